import PyProof.Rows.All
import Wide.All
import OpenK.AllK
import Wide.FinOn
import HandS.ForMost
import HandS.ForExc
import HandS.TupSets
import HandS.Star
import HandS.RaiseMore
import HandS.Flow
import HandS.Defaults
import HandS.MakeKw
import HandS.MakeKwOnly
import HandS.IsInst
import HandS.Deep
import HandS.NoneIn
import HandS.Style
import HandS.Walk
import HandS.Zip
import HandS.TupAny
import HandS.ClsMeth
import HandS.Text
import HandS.Iter
import PyProof.Draws
import PyProof.EnumMake
import KE.KSuper
import HandS.DictComp
import HandS.GenList
import HandS.SetTxt0
import HandS.SetBool
import HandS.SetFor
import HandS.Strs
import HandS.List
import PyProof.Rows.SortShellAny
import HandS.SortKw
import HandS.FltList
import PyProof.MinMaxWalk
import PyProof.WalkInts
import HandS.Property
import PyProof.Rows.StrMeet
import PySem.Challenge.RW_splitplans_k02_second_stories_of_terms
set_option Elab.async false
set_option linter.all false
set_option maxRecDepth 100000
set_option maxHeartbeats 4000000
namespace GB
open PySem PySem.Spec PyProof.Rows L2
structure Dfn (K:PySem.W.Frag) (mg:Str → Option Value) (x:Str) (st:Stmt):Prop where
 ex:∃ (f:Addr) (fd:FuncData),Fun K x x st f fd ∧ mg x = some (.ref f)
theorem dfn_mk {K:PySem.W.Frag} {mg:Str → Option Value} {h:Heap} {x:Str} {st:Stmt} {f:Addr} {oc:Value} {od an:Option Addr} {osl:Array (Option Value)} {kV doc pm cdv ct:Value} (X:K.In h) (G:h.Ns mainGlobals mg)
  (a:PySem.W.nsIn K mainGlobals x = some (some (.ref f))) (l:K.lookup f = some ⟨oc,od,.func (PySem.W.fnOf x x (defArgs st) (defBody st) (defScope st) .none kV doc pm an cdv ct),osl⟩)
  (c:PySem.W.codeIn K cdv x = true) (k:PySem.W.keepIn K (.ref f) = true):Dfn K mg x st:=⟨f,_,fun_mk l c k,PySem.W.mg_of X G a⟩
structure Kls (K:PySem.W.Frag) (mg:Str → Option Value) (x:Str) (C:Addr):Prop where
 cls:Cls K C
 makes:PySem.W.makesIn K C = true
 kp:PySem.W.keepIn K (.ref C) = true
 at_:mg x = some (.ref C)
structure Mth (K:PySem.W.Frag) (C:Addr) (m qual:Str) (st:Stmt):Prop where
 ex:∃ (f:Addr) (fd:FuncData),Fun K m qual st f fd ∧ PySem.W.findIn K (.ref C) m = some (some (.ref f)) ∧ PySem.W.isFn K (.ref f) = true
theorem mth_mk {K:PySem.W.Frag} {m qual:Str} {C:Addr} {st:Stmt} {f:Addr} {oc:Value} {od an:Option Addr} {osl:Array (Option Value)} {kV doc pm cdv ct:Value}
  (a:PySem.W.findIn K (.ref C) m = some (some (.ref f))) (i:PySem.W.isFn K (.ref f) = true) (l:K.lookup f = some ⟨oc,od,.func (PySem.W.fnOf m qual (defArgs st) (defBody st) (defScope st) .none kV doc pm an cdv ct),osl⟩)
  (c:PySem.W.codeIn K cdv qual = true) (k:PySem.W.keepIn K (.ref f) = true):Mth K C m qual st:=⟨f,_,fun_mk l c k,a,i⟩
structure Kp (S:List Addr) (H H':Hp):Prop where
 keep:∀ b o,b ∉ S → H b = some o → H' b = some o
 tup:∀ b xs,H b = some (.tup xs) → H' b = some (.tup xs)
 dom:∀ b,H' b = none → H b = none
theorem Kp.trans {S:List Addr} {H H1 H2:Hp} (a:Kp S H H1) (b:Kp S H1 H2):Kp S H H2:=⟨fun c o n e => b.keep c o n (a.keep c o n e),fun c o e => b.tup c o (a.tup c o e),fun c e => a.dom c (b.dom c e)⟩
theorem Kp.mono {S S':List Addr} {H H1:Hp} (a:Kp S H H1) (h:∀ b ∈ S,b ∈ S'):Kp S' H H1:=⟨fun c o n e => a.keep c o (fun z => n (h c z)) e,a.tup,a.dom⟩
theorem Kp.same {H H1:Hp} (a:Kp [] H H1):Same H H1:=fun b o e => a.keep b o (fun z => nomatch z) e
theorem Kp.new {S:List Addr} {H:Hp} {p:Addr} {o:HO} (h:H p = none):Kp S H (upd H p o):=by
 have k:∀ b u,H b = some u → upd H p o b = some u:=fun b u e => by rw [upd_ne (ne_of_none e h)]; exact e
 refine ⟨fun b u _ e => k b u e,fun b xs e => k b _ e,fun b e => ?_⟩
 by_cases hb:b = p
 ·subst hb; exact h
 ·rwa [upd_ne hb] at e
theorem Kp.put {H:Hp} {p:Addr} {o u:HO} (h:H p = some u) (nt:∀ xs,u ≠ .tup xs:=by intro _ z; cases z):Kp [p] H (upd H p o):=by
 refine ⟨fun b v n e => ?_,fun b xs e => ?_,fun b e => ?_⟩
 ·rw [upd_ne (fun z => n (by simp [z]))]; exact e
 ·rw [upd_ne (fun z => by subst z; rw [h] at e; exact nt xs (Option.some.inj e))]; exact e
 ·by_cases hb:b = p
  ·subst hb; rw [upd_same] at e; cases e
  ·rwa [upd_ne hb] at e
theorem Kp.made {S:List Addr} {H:Hp} {x dx C:Addr} (nx:H x = none) (nd:H dx = none):Kp S H (upd (upd H dx (.own x)) x (.ins C dx [])):=by
 by_cases e:x = dx
 ·subst e; rw [upd_upd]; exact Kp.new nx
 ·exact (Kp.new nd).trans (Kp.new (by rw [upd_ne e]; exact nx))
theorem Kp.at {S:List Addr} {H H1:Hp} {b:Addr} {o:HO} (a:Kp S H H1) (e:H b = some o) (n:b ∉ S:=by simp_all):H1 b = some o:=a.keep b o n e
theorem Kp.fresh {S:List Addr} {H H1:Hp} {b c:Addr} {o:HO} (a:Kp S H H1) (e:H b = some o) (n:H1 c = none):b ≠ c:=ne_of_none e (a.dom c n)
theorem mod_lt' {a b:Int} (h:0 < b):0 ≤ a % b ∧ a % b < b:=⟨Int.emod_nonneg _ (by omega),Int.emod_lt_of_pos _ h⟩
section
variable {X:Cx} {C:Addr}
theorem inst_at {pins:List (Addr × Obj)} {σ:L2.St} {H:Hp} {s:Shared} {a dx:Addr} {fs:List (Str × V)} (I:Inv X pins σ H s) (h:H a = some (.ins C dx fs)):∃ ox od,PySem.W.InstAt s.heap a ox C od:=by
 obtain ⟨mA,O,_⟩:=ins_get I.hok h
 obtain ⟨od,J,_⟩:=O.look
 exact ⟨_,_,J⟩
end
def rStrO (C:Addr) (sp:Sp):List V → Hp → VK → Prop:=fun xs H Q => ∃ a dx fs,xs = [.ref a] ∧ H a = some (.ins C dx fs) ∧ sp [.ref a] H (fun v H' => ∃ z,v = .str z ∧ Q (.str z) H') E0
end GB
namespace G1
open PySem PySem.Spec PyProof.Rows L2 GB
section
variable {X:Cx} {CX:CXT} {k j:Nat} {f:Addr} {fd:FuncData} {ps:List Str} {sp:Sp} {ds:List Value} {dvs:List V} {E:XK}
theorem run_g {pins:List (Addr × Obj)} {σ:L2.St} {H:Hp} {s:Shared} {Q:VK} {us:List Value} {vs:List V} (F:FnOk X.prog X.w X.K X.mg X.base CX k f fd ps sp) (hr:Room k X.A) (hb:Binds X.K fd ps ds) (hd:Vals dvs ds) (hx:Passes CX X E)
  (I:Inv X pins σ H s) (r:Vals vs us) (h:sp (vs ++ dvs) H Q E):wpAny (model X.prog X.w) X.A (call (.ref f) us) (EP X pins σ Q) X.xe s:=by
 have both:=r.append hd
 have n:(us ++ ds).length = ps.length:=both.length.symm.trans (F.len _ _ _ _ h)
 refine wpAny_call (codeAny_mono (F.run X.A X.stack s H ⟨us,[]⟩ _ _ Q E hr I.env0 (hb s us I.kIn n) both h) fun res s' hq => ?_)
 match res,hq with
 | .error e,hq => exact hx pins σ H s e s' I hq
 | .ok (.ret u),hq => exact I.after hq
 | .ok .next,hq => exact False.elim hq
 | .ok .brk,hq => exact False.elim hq
 | .ok .cont,hq => exact False.elim hq
end
structure Cal (P:Program) (w:World) (K:PySem.W.Frag) (mg:Str → Option Value) (base:Heap) (k:Nat) (x:Str) (sp:Sp):Prop where
 ex:∃ (f:Addr) (fd:FuncData) (ps:List Str),FnOk P w K mg base CX0 k f fd ps sp ∧ mg x = some (.ref f) ∧ PySem.W.keepIn K (.ref f) = true ∧ Binds K fd ps []
section
variable {P:Program} {w:World} {K:PySem.W.Frag} {mg:Str → Option Value} {base:Heap}
theorem cal {k:Nat} {x:Str} {st:Stmt} {N ps:List Str} {sp:Sp} (D:Dfn K mg x st) (S:FnScope N ps (defScope st))
  (hb:∀ (kV doc pm:Value) (an:Option Addr) (cdv ct:Value) (us:List Value),us.length = ps.length → bindArgs (PySem.W.fnOf x x (defArgs st) (defBody st) (defScope st) .none kV doc pm an cdv ct) ⟨us,[]⟩ = pure (ps.zip us))
  (len:∀ vs H Q E,sp vs H Q E → vs.length = ps.length)
  (body:∀ (f:Addr) (cdv:Value) (A:Around) (outer:List Env) (s:Shared) (H:Hp) (vs:List V) (Q:VK) (E:XK),
   Room k (A.deeper (envOfC x (defScope st) s.heap.objs.size f cdv)) → sp vs H Q E →
   ∃ t,PSs (cxOf CX0 P w K mg base N x (defScope st) f cdv A outer s H E).nox (defBody st) t ∧ t { nx:=fun _ H' => Q .non H',rt:=Q } (start N vs) H) :
  Cal P w K mg base (k + 1) x sp:=by
 obtain ⟨f,fd,F,m⟩:=D.ex
 exact ⟨f,fd,ps,F.ok S len (body f),m,F.kp,F.binds hb⟩
end
section
variable {X:Cx} {k j:Nat} {C:Addr} {x m:Str} {sp:Sp} {p pos apos:Pos} {e o:Expr} {es:List Expr} {ta:TE} {t:TA}
theorem pe_c (c:Cal X.prog X.w X.K X.mg X.base k x sp) (hr:Room j X.A) (hk:k ≤ j) (hg:Gl X x) (ha:PA X (e :: es) t)
  (hdb:(x == ("__debug__" : Str)) = false:=by decide) (he:starEach (e :: es) X.env = (false,eval e X.env) :: starEach es X.env:=by rfl) (hpl:(backTo pos (starEach es X.env)).any (·.1) = false:=by rfl) :
  PE X (.Call (.Name x p) (e :: es) [] pos) (tCall sp [] E0 t):=by
 obtain ⟨f,fd,ps,F,hm,kp,b⟩:=c.ex
 refine ⟨fun pins s σ H Q I h => wpAny_Call_Name_kw (ld_glob I hg hm ?_ hdb)⟩
 refine PySem.W.callWith_K (h₀:=X.base) I.ok.mod.kin kp (thn (ha.run pos pins s σ H _ I h) fun us s1 ⟨vs,H1,I1,r,q⟩ => ⟨I1.kIn,?_⟩) he hpl
 exact run_g F (hr.mono hk) b .nil pass0 I1 r q
end
structure Met (P:Program) (w:World) (K:PySem.W.Frag) (mg:Str → Option Value) (base:Heap) (k:Nat) (C:Addr) (m:Str) (sp:Sp):Prop where
 ex:∃ (f:Addr) (fd:FuncData) (ps:List Str),FnOk P w K mg base CX0 k f fd ps sp ∧ PySem.W.findIn K (.ref C) m = some (some (.ref f)) ∧ PySem.W.isFn K (.ref f) = true ∧ PySem.W.keepIn K (.ref f) = true ∧ Binds K fd ps []
section
variable {P:Program} {w:World} {K:PySem.W.Frag} {mg:Str → Option Value} {base:Heap}
theorem met {k:Nat} {C:Addr} {m qual:Str} {st:Stmt} {N ps:List Str} {sp:Sp} (D:Mth K C m qual st) (S:FnScope N ps (defScope st))
  (hb:∀ (kV doc pm:Value) (an:Option Addr) (cdv ct:Value) (us:List Value),us.length = ps.length → bindArgs (PySem.W.fnOf m qual (defArgs st) (defBody st) (defScope st) .none kV doc pm an cdv ct) ⟨us,[]⟩ = pure (ps.zip us))
  (len:∀ vs H Q E,sp vs H Q E → vs.length = ps.length)
  (body:∀ (f:Addr) (cdv:Value) (A:Around) (outer:List Env) (s:Shared) (H:Hp) (vs:List V) (Q:VK) (E:XK),
   Room k (A.deeper (envOfC qual (defScope st) s.heap.objs.size f cdv)) → sp vs H Q E →
   ∃ t,PSs (cxOf CX0 P w K mg base N qual (defScope st) f cdv A outer s H E).nox (defBody st) t ∧ t { nx:=fun _ H' => Q .non H',rt:=Q } (start N vs) H) :
  Met P w K mg base (k + 1) C m sp:=by
 obtain ⟨f,fd,F,a,i⟩:=D.ex
 exact ⟨f,fd,ps,F.ok S len (body f),a,i,F.kp,F.binds hb⟩
end
section
variable {X:Cx} {k j:Nat} {C:Addr} {x m:Str} {sp:Sp} {p pos apos:Pos} {e o fe:Expr} {es:List Expr} {ta tf:TE} {t:TA}
theorem pe_mt0 {pl:Sem Bool} (cl:Cls X.K C) (c:Met X.prog X.w X.K X.mg X.base k C m sp) (hr:Room j X.A) (hk:k ≤ j) (ho:PE X o ta)
  (ht:eval (.Call (.Attribute o m apos) [] [] pos) X.env = (do
   let recv ← eval o X.env
   standAt apos.atName
   let (fn,one) ← holding [recv] (getMethod recv m pl)
   callWith pos fn one (backTo pos (starEach [] X.env)) (backToKw pos (keywordEach [] X.env))):=by rfl) :
  PE X (.Call (.Attribute o m apos) [] [] pos) (tMeth C m sp [] E0 ta tNil):=by
 obtain ⟨f,fd,ps,F,fi,isf,kf,b⟩:=c.ex
 refine ⟨fun pins s σ H Q I h => PySem.W.methodCall_KW (pl:=pl) (thn (ho.run pins s σ H _ I h) ?_) ht⟩
 rintro u s1 ⟨y,H1,I1,ry,a,dx,fs,rfl,ea,l,q⟩
 obtain rfl:u = Value.ref a:=ry
 refine getmeth_ok I1 ea cl ⟨fi,isf,kf⟩ l ?_
 exact PySem.W.callWith_K0 (first:=[.ref a]) I1.kIn kf (run_g (us:=[.ref a]) (vs:=[.ref a]) F (hr.mono hk) b .nil pass0 I1 (.cons rfl .nil) q)
end
theorem run_gAt {X:Cx} {k:Nat} {f:Addr} {fd:FuncData} {ps:List Str} {sp:Sp} {A:Around} {pins:List (Addr × Obj)} {σ:L2.St} {H:Hp} {s:Shared} {Q:VK} {us:List Value} {vs:List V} {E:Value → Shared → Prop}
  (F:FnOk X.prog X.w X.K X.mg X.base CX0 k f fd ps sp) (hr:Room k A) (fr:A.frames = X.A.frames) (hb:Binds X.K fd ps []) (I:Inv X pins σ H s) (r:Vals vs us) (h:sp vs H Q E0) :
  wpAny (model X.prog X.w) A (call (.ref f) us) (EP X pins σ Q) E s:=by
 have n:(us ++ []).length = ps.length:=by rw [List.append_nil,← r.length]; exact F.len _ _ _ _ h
 have bd:=hb s us I.kIn n
 rw [List.append_nil] at bd
 have e:=I.env0
 have e0:Env0 X.prog X.w X.K X.mg X.base A X.stack s H:={ frames:=fr.trans e.frames,mod:=e.mod,bs:=e.bs,bsz:=e.bsz,funs:=e.funs,frf:=e.frf,hok:=e.hok,bare:=e.bare }
 refine wpAny_call (codeAny_mono (F.run A X.stack s H ⟨us,[]⟩ _ _ Q E0 hr e0 bd r h) fun res s' hq => ?_)
 match res,hq with
 | .error e,hq => exact False.elim hq
 | .ok (.ret u),hq => exact I.after hq
 | .ok .next,hq => exact False.elim hq
 | .ok .brk,hq => exact False.elim hq
 | .ok .cont,hq => exact False.elim hq
section
variable {X:Cx} {k j:Nat} {C:Addr} {sp:Sp}
theorem call_strO (c:Met X.prog X.w X.K X.mg X.base k C "__str__" sp) (hr:Room j X.A) (hk:k + 2 ≤ j):CallR X (.type "str") (rStrO C sp):=by
 intro pins s σ H xs us Q I r h
 obtain ⟨a,dx,fs,rfl,ha,q⟩:=h
 obtain ⟨u,rfl,ru⟩:=vals1 r
 obtain rfl:u = Value.ref a:=ru
 obtain ⟨f,fd,ps,F,fi,isf,kf,b⟩:=c.ex
 obtain ⟨ox,od,J⟩:=inst_at I ha
 have r2:Room (k + 2) X.A:=hr.mono hk
 refine PySem.W.kso_call (f:=f) r2.in1.in1.units0 I.kIn J fi isf (thn (run_gAt (vs:=[.ref a]) F r2.in1.in1 rfl b I (.cons rfl .nil) q) ?_)
 rintro v s' ⟨z,H',I',rz,y,rfl,qz⟩
 obtain ⟨t,rfl⟩:=rz
 exact ⟨.str y,H',I',⟨t,rfl⟩,qz⟩
end
end G1
namespace G0
open PySem PySem.Spec PyProof.Rows L2 GB
structure RoomG (k:Nat) (A:Around):Prop where
 rm:Room k A
 gd:A.guards = some []
theorem RoomG.mono {j k:Nat} {A:Around} (r:RoomG k A) (h:j ≤ k):RoomG j A:=⟨r.rm.mono h,r.gd⟩
theorem RoomG.deeper {k:Nat} {A:Around} (r:RoomG (k + 1) A) (env:Env):RoomG k (A.deeper env):=⟨r.rm.deeper env,r.gd⟩
theorem RoomG.units {k:Nat} {A:Around} (r:RoomG k A):A.units + 64 < cLine:=r.rm.units
theorem RoomG.units0 {k:Nat} {A:Around} (r:RoomG k A):A.units < cLine:=r.rm.units0
section
variable (P:Program) (w:World) (K:PySem.W.Frag) (mg:Str → Option Value) (base:Heap) (CX:CXT)
structure FnG (k:Nat) (f:Addr) (fd:FuncData) (ps:List Str) (sp:Sp):Prop where
 len:∀ vs H Q E,sp vs H Q E → vs.length = ps.length
 run:∀ (A:Around) (outer:List Env) (s:Shared) (H:Hp) (args:Args) (us:List Value) (vs:List V) (Q:VK) (E:XK),
  RoomG k A → Env0 P w K mg base A outer s H → BindsTo s fd args (ps.zip us) → Vals vs us → sp vs H Q E →
  codeAny (model P w) A (.call (.ref f) args) (CR CX outer P w H s Q E) s
end
section
variable {P:Program} {w:World} {K:PySem.W.Frag} {mg:Str → Option Value} {base:Heap} {CX:CXT} {k j:Nat} {f:Addr} {fd:FuncData} {ps:List Str} {sp:Sp}
theorem FnG.mono (F:FnG P w K mg base CX j f fd ps sp) (h:j ≤ k):FnG P w K mg base CX k f fd ps sp :=
 ⟨F.len,fun A outer s H args us vs Q E hr => F.run A outer s H args us vs Q E (hr.mono h)⟩
theorem FnG.imp {sp':Sp} (F:FnG P w K mg base CX k f fd ps sp) (h:∀ vs H Q E,sp' vs H Q E → sp vs H Q E):FnG P w K mg base CX k f fd ps sp' :=
 ⟨fun vs H Q E q => F.len vs H Q E (h _ _ _ _ q),fun A outer s H args us vs Q E hr e0 b r q => F.run A outer s H args us vs Q E hr e0 b r (h _ _ _ _ q)⟩
theorem ofOk (F:FnOk P w K mg base CX k f fd ps sp):FnG P w K mg base CX k f fd ps sp :=
 ⟨F.len,fun A outer s H args us vs Q E hr => F.run A outer s H args us vs Q E hr.rm⟩
theorem fng {x qual:Str} {st:Stmt} {N:List Str} (F:Fun K x qual st f fd) (S:FnScope N ps (defScope st)) (len:∀ vs H Q E,sp vs H Q E → vs.length = ps.length)
  (body:∀ (cdv:Value) (A:Around) (outer:List Env) (s:Shared) (H:Hp) (vs:List V) (Q:VK) (E:XK),
   RoomG k (A.deeper (envOfC qual (defScope st) s.heap.objs.size f cdv)) → sp vs H Q E →
   ∃ t,PSs (cxOf CX P w K mg base N qual (defScope st) f cdv A outer s H E) (defBody st) t ∧ t { nx:=fun _ H' => Q .non H',rt:=Q } (start N vs) H) :
  FnG P w K mg base CX (k + 1) f fd ps sp:=by
 obtain ⟨oc,od,kV,doc,pm,an,cdv,ct,osl,hfd,lk,hcd⟩:=F.ex
 subst hfd
 refine ⟨len,fun A outer s H args us vs Q E room e0 hbind rv want => ?_⟩
 have n:=len _ _ _ _ want
 have keepB:∀ b o,base.get? b = some o → s.heap.get? b = some o:=fun b o e => (e0.bs b o e).1
 have inK:=e0.mod.kin.keeps keepB
 have noLim:=e0.mod.nolimit.keeps keepB
 have kinds:∀ y ∈ ps.zip us,(defScope st).names.lookup y.1 = some .local ∨ ((defScope st).names.lookup y.1 = some .cell ∧ ((cellsFrom (s.heap.objs.size + 1) (defScope st).names []).lookup y.1).isSome = true):=by
  rintro ⟨nm,v⟩ hy
  exact (S.par nm (List.of_mem_zip hy).1).elim .inl fun q => .inr ⟨q,PySem.W.cellsFrom_some _ _ _ (.inl q)⟩
 refine codeAny_call_function room.rm.depth (inK _ _ lk) rfl S.co S.gen rfl (PySem.W.codeRec_of inK hcd) (hbind _ _ _ _ (wpAny_newFunctionEnv_cells S.kind kinds ?_))
 rintro env rfl s1 x
 refine ⟨noLim.keeps x.toInCall.keep,codeAny_func ?_⟩
 obtain ⟨t,ht,hq⟩:=body cdv A outer s H vs Q E (room.deeper _) want
 refine wpAny_mono (ht.run [] s1 (start N vs) H _ (inv_start S room.rm.hd e0 n rv x) hq) (fun fl s' hs => ?_) fun _ _ hs => hs
 cases fl with
 | ret u => obtain ⟨v,σ',H',J,r,q⟩:=hs; exact ⟨v,H',J.os,J.bare,J.base,J.hok,r,q⟩
 | next => obtain ⟨σ',H',J,q⟩:=hs; exact ⟨V.non,H',J.os,J.bare,J.base,J.hok,rfl,q⟩
 | brk => obtain ⟨_,_,_,q⟩:=hs; exact q.elim
 | cont => obtain ⟨_,_,_,q⟩:=hs; exact q.elim
theorem fng0 {x qual:Str} {st:Stmt} {N:List Str} (F:Fun K x qual st f fd) (S:FnScope N ps (defScope st)) (len:∀ vs H Q E,sp vs H Q E → vs.length = ps.length)
  (body:∀ (cdv:Value) (A:Around) (outer:List Env) (s:Shared) (H:Hp) (vs:List V) (Q:VK) (E:XK),
   RoomG k (A.deeper (envOfC qual (defScope st) s.heap.objs.size f cdv)) → sp vs H Q E →
   ∃ t,PSs (cxOf CX0 P w K mg base N qual (defScope st) f cdv A outer s H E).nox (defBody st) t ∧ t { nx:=fun _ H' => Q .non H',rt:=Q } (start N vs) H) :
  FnG P w K mg base CX0 (k + 1) f fd ps sp :=
 fng F S len fun cdv A outer s H vs Q E hr h => let ⟨t,a,b⟩:=body cdv A outer s H vs Q E hr h; ⟨t,a.nox,b⟩
end
theorem RoomG.in1 {k:Nat} {A:Around} (r:RoomG (k + 1) A):RoomG k A.in1:=⟨r.rm.in1,r.gd⟩
structure Cal (P:Program) (w:World) (K:PySem.W.Frag) (mg:Str → Option Value) (base:Heap) (k:Nat) (x:Str) (sp:Sp):Prop where
 ex:∃ (f:Addr) (fd:FuncData) (ps:List Str),FnG P w K mg base CX0 k f fd ps sp ∧ mg x = some (.ref f) ∧ PySem.W.keepIn K (.ref f) = true ∧ Binds K fd ps []
structure Met (P:Program) (w:World) (K:PySem.W.Frag) (mg:Str → Option Value) (base:Heap) (k:Nat) (C:Addr) (m:Str) (sp:Sp):Prop where
 ex:∃ (f:Addr) (fd:FuncData) (ps:List Str),FnG P w K mg base CX0 k f fd ps sp ∧ PySem.W.findIn K (.ref C) m = some (some (.ref f)) ∧ PySem.W.isFn K (.ref f) = true ∧ PySem.W.keepIn K (.ref f) = true ∧ Binds K fd ps []
section
variable {P:Program} {w:World} {K:PySem.W.Frag} {mg:Str → Option Value} {base:Heap}
theorem met {k:Nat} {C:Addr} {m qual:Str} {st:Stmt} {N ps:List Str} {sp:Sp} (D:Mth K C m qual st) (S:FnScope N ps (defScope st))
  (hb:∀ (kV doc pm:Value) (an:Option Addr) (cdv ct:Value) (us:List Value),us.length = ps.length → bindArgs (PySem.W.fnOf m qual (defArgs st) (defBody st) (defScope st) .none kV doc pm an cdv ct) ⟨us,[]⟩ = pure (ps.zip us))
  (len:∀ vs H Q E,sp vs H Q E → vs.length = ps.length)
  (body:∀ (f:Addr) (cdv:Value) (A:Around) (outer:List Env) (s:Shared) (H:Hp) (vs:List V) (Q:VK) (E:XK),
   RoomG k (A.deeper (envOfC qual (defScope st) s.heap.objs.size f cdv)) → sp vs H Q E →
   ∃ t,PSs (cxOf CX0 P w K mg base N qual (defScope st) f cdv A outer s H E).nox (defBody st) t ∧ t { nx:=fun _ H' => Q .non H',rt:=Q } (start N vs) H) :
  Met P w K mg base (k + 1) C m sp:=by
 obtain ⟨f,fd,F,a,i⟩:=D.ex
 exact ⟨f,fd,ps,fng0 F S len (body f),a,i,F.kp,F.binds hb⟩
end
section
variable {P:Program} {w:World} {K:PySem.W.Frag} {mg:Str → Option Value} {base:Heap} {k:Nat} {x m:Str} {C:Addr} {sp:Sp}
theorem up (c:G1.Cal P w K mg base k x sp):Cal P w K mg base k x sp:=let ⟨f,fd,ps,F,r⟩:=c.ex; ⟨f,fd,ps,ofOk F,r⟩
end
theorem lawG {P:Program} {w:World} {K:PySem.W.Frag} {mg mb:Str → Option Value} {k:Nat} {fa a:Addr} {x:Str} {sp:Sp} {s1:Shared} {us:List Value} {ns:List Int}
  (inK:K.In s1.heap) (gl:s1.heap.Ns mainGlobals mg) (bl:s1.heap.Ns builtinsNs mb) (blE:∀ x:Str,x ≠ "__name__" → mb x = bootBuiltins x) (lim:s1.heap.NoLimit) (gens:s1.gens = #[])
  (obj:s1.heap.get? a = some { cls := .type "list",data := .seq us.toArray }) (intsH:IntsAre us ns) (short:ns.length ≤ sizeLine) (room:RoomG k callerA)
  (F:∀ base:Heap,K.In base → base.Ns mainGlobals mg → Cal P w K mg base k x sp) (hx:mg x = some (.ref fa))
  (want:∀ H:Hp,Only H → SqL K H a (ns.map V.int) → sp [.ref a] H (fun v _ => v = .bl true) fun _ _ _ => False) :
  codeAny (model P w) callerA (.call (.ref fa) ⟨[.ref a],[]⟩) (fun r s' => r = .ok (.ret (.bool true)) ∧ OldK s1.heap s'.heap ∧ s'.os = s1.os ∧ AllBare s'.gens) s1:=by
 have go:∀ T:Hp,(∀ b u,T b = some u → b = a ∧ ∃ o xs,u = .frz o (.lst xs)) → SqL K T a (ns.map V.int) → HOk P w T s1.heap → (T a ≠ none → K.lookup a = none) →
   codeAny (model P w) callerA (.call (.ref fa) ⟨[.ref a],[]⟩) (fun r s' => r = .ok (.ret (.bool true)) ∧ OldK s1.heap s'.heap ∧ s'.os = s1.os ∧ AllBare s'.gens) s1:=by
  intro T only seq hok free
  have hid:∀ {b:Addr} {m:Str → Option Value},s1.heap.Ns b m → (hidT s1.heap T).Ns b m:=by
   rintro b m ⟨o,es,ep,e,d,rest⟩
   refine ⟨o,es,ep,hidT_get e ?_,d,rest⟩
   cases q:T b with
   | none => rfl
   | some u =>
    obtain ⟨rfl,_⟩:=only b u q
    rw [obj] at e
    obtain rfl:=Option.some.inj e
    exact nomatch d
  have inB:K.In (hidT s1.heap T):=by
   intro b o e
   refine hidT_get (inK b o e) ?_
   cases q:T b with
   | none => rfl
   | some u =>
    obtain ⟨rfl,_⟩:=only b u q
    rw [free (by rw [q]; exact fun z => nomatch z)] at e
    exact nomatch e
  have lim':(hidT s1.heap T).NoLimit:=by
   obtain ⟨mc,z1,z2⟩:=lim
   exact ⟨mc,hid z1,z2⟩
  have env0:Env0 P w K mg (hidT s1.heap T) callerA [] s1 T :=
   {frames:=rfl,mod:=⟨inB,hid gl,⟨mb,hid bl,blE⟩,lim'⟩,bs:=fun _ _ e => of_hidT e,bsz:=Nat.le_of_eq (hidT_size _ _),funs:=trivial,frf:=(fun _ hb => nomatch hb),hok:=hok,bare := .of_eq gens }
  have onlyT:Only T:=fun b => by
   cases q:T b with
   | none => exact .inl rfl
   | some u => obtain ⟨_,o,xs,rfl⟩:=only b u q; exact .inr ⟨o,xs,rfl⟩
  obtain ⟨f,fd,ps,Fn,hm,_,hb⟩:=(F _ inB (hid gl)).ex
  obtain rfl:fa = f:=by rw [hx] at hm; cases hm; rfl
  have one:=Fn.len _ _ _ _ (want T onlyT seq)
  have bd:=hb s1 [.ref a] inK one
  rw [List.append_nil] at bd
  refine codeAny_mono (Fn.run callerA [] s1 T ⟨[.ref a],[]⟩ [.ref a] [.ref a] _ _ room env0 bd (.cons rfl .nil) (want T onlyT seq)) ?_
  intro r s' hq
  match r,hq with
  | .error _,hq => exact False.elim hq
  | .ok .next,hq => exact False.elim hq
  | .ok .brk,hq => exact False.elim hq
  | .ok .cont,hq => exact False.elim hq
  | .ok (.ret u),hq =>
   obtain ⟨v,T',os,bare,un,hok',rv,ev⟩:=hq
   subst ev
   obtain rfl:u = Value.bool true:=rv
   refine ⟨rfl,OldK.of_keep fun b o e => ?_,os,bare⟩
   cases q:T b with
   | none => exact un.keep b o e q (fun z => nomatch z) (fun z => nomatch z)
   | some t =>
    obtain ⟨_,ob,xs,rfl⟩:=only b t q
    have same:=(hok b _ q).1
    rw [e] at same
    obtain rfl:=Option.some.inj same
    exact (hok' b _ (un.frzs b _ _ q)).1
 have rv:=vals_ints intsH
 by_cases hk:∃ o,K.lookup a = some o
 ·obtain ⟨o,hk⟩:=hk
  have e:=inK a o hk
  rw [obj] at e
  obtain rfl:=Option.some.inj e
  refine go (fun _ => none) (fun _ _ z => nomatch z) (.inr ⟨_,us.toArray,_,hk,rfl,rfl,rfl,?_,by simpa using rv⟩) (fun _ _ z => nomatch z) (fun z => absurd rfl z)
  rw [List.size_toArray,intsH.length]
  exact short
 ·have hk':K.lookup a = none:=by
   cases q:K.lookup a with
   | none => rfl
   | some o => exact absurd ⟨o,q⟩ hk
  refine go (upd (fun _ => none) a (.frz { cls := .type "list",data := .seq us.toArray } (.lst (ns.map V.int)))) (fun b u z => ?_) (.inl (.inr ⟨_,upd_same⟩)) (fun b u z => ?_) (fun _ => hk')
  ·by_cases hb:b = a
   ·subst hb
    rw [upd_same] at z
    obtain rfl:=Option.some.inj z
    exact ⟨rfl,_,_,rfl⟩
   ·rw [upd_ne hb] at z
    exact nomatch z
  ·by_cases hb:b = a
   ·subst hb
    rw [upd_same] at z
    obtain rfl:=Option.some.inj z
    exact ⟨obj,by rw [List.length_map]; exact short,us,_,rv,obj⟩
   ·rw [upd_ne hb] at z
    exact nomatch z
theorem walkG {l:PySem.W.OpenLaw} {k:Nat} {q:Program} {loose:List Str} {XP:(Str → Option Value) → Heap → Prop} {YP:World → Heap → Prop} {d:DefRec} {K:Params → PySem.W.Frag} {sp:PySem.W.Frag → Sp}
  (most:l.most = some 63) (hdf:d.params.defaults = []) (room:RoomG k callerA) (hY:∀ (w:World) (h:Heap),YP w h → (K w.params).In h)
  (want:∀ (K:PySem.W.Frag) (H:Hp) (a:Addr) (ns:List Int),ns.length ≤ 63 → SqL K H a (ns.map V.int) → sp K [.ref a] H (fun v _ => v = .bl true) fun _ _ _ => False)
  (F:∀ (w:World) (mg:Str → Option Value) (h:Heap),(K w.params).In h → h.Ns mainGlobals mg → ∀ base:Heap,Cal l.prog w (K w.params) mg base k d.name (sp (K w.params))) :
  PySem.W.WalkO q loose XP YP l.row.toRowW d [] (fun f vs => PySem.call f vs):=by
 refine Att.attach_call most hdf fun w s0 s1 mg mb fa o pm cd doc a us ns gr y ho hd hcd hmg obj intsH hlen gens => ?_
 have inK:=hY w _ y
 exact lawG inK gr.T.g gr.T.b gr.T.builtins gr.T.nolimit gens obj intsH (Nat.le_trans hlen (by decide)) room (fun base _ _ => F w mg _ inK gr.T.g base) hmg fun H _ hS => want _ H a ns hlen hS
end G0
namespace GB
open PySem PySem.Spec PyProof.Rows L2
def penShape:HO → Bool
 | .lst [.ref _,.int _,.int _] => true
 | .dK _ => true
 | _ => false
structure Kq (H H':Hp):Prop where
 keep:∀ b o,penShape o = false → H b = some o → H' b = some o
 dom:∀ b,H' b = none → H b = none
theorem Kq.trans {H H1 H2:Hp} (a:Kq H H1) (b:Kq H1 H2):Kq H H2:=⟨fun c o n e => b.keep c o n (a.keep c o n e),fun c e => a.dom c (b.dom c e)⟩
theorem Kp.q {H H1:Hp} (a:Kp [] H H1):Kq H H1:=⟨fun b o _ e => a.same b o e,a.dom⟩
theorem Kq.new {H:Hp} {p:Addr} {o:HO} (h:H p = none):Kq H (upd H p o):=(Kp.new (S:=[]) h).q
def Pen (H:Hp) (p c:Addr) (n:Int):Prop:=∃ (cs:List Int) (i r:Int),H p = some (.lst [.ref c,.int i,.int r]) ∧ H c = some (.lst (cs.map V.int)) ∧ 0 ≤ i ∧ i ≤ n ∧ 0 ≤ r
theorem shape_strs (cs:List Str):penShape (.lst (cs.map V.str)) = false:=by
 cases cs <;> rfl
theorem shape_refs (cs:List Addr):penShape (.lst (cs.map V.ref)) = false:=by
 match cs with
 | [] => rfl
 | [_] => rfl
 | [_,_] => rfl
 | [_,_,_] => rfl
 | _ :: _ :: _ :: _ :: _ => rfl
theorem Pen.le {H:Hp} {p c:Addr} {n m:Int} (h:Pen H p c n) (l:n ≤ m):Pen H p c m:=by
 obtain ⟨cs,i,r,g1,g2,g3,g4,g5⟩:=h
 exact ⟨cs,i,r,g1,g2,g3,by omega,g5⟩
theorem Pen.same {H H':Hp} {p c:Addr} {n:Int} (k:Kp [] H H') (h:Pen H p c n):Pen H' p c n:=by
 obtain ⟨cs,i,r,g1,g2,g3⟩:=h
 exact ⟨cs,i,r,k.same _ _ g1,k.same _ _ g2,g3⟩
theorem Pen.new {H:Hp} {p c q:Addr} {n:Int} {o:HO} (h:Pen H p c n) (hq:H q = none):Pen (upd H q o) p c n:=h.same (Kp.new hq)
theorem Pen.put {H:Hp} {p c q:Addr} {n:Int} {o:HO} (h:Pen H p c n) (h1:p ≠ q ∧ c ≠ q):Pen (upd H q o) p c n:=by
 obtain ⟨cs,i,r,g1,g2,g3⟩:=h
 exact ⟨cs,i,r,by rw [upd_ne h1.1]; exact g1,by rw [upd_ne h1.2]; exact g2,g3⟩
def StrL (H:Hp) (a:Addr) (xs:List Str):Prop:=H a = some (.lst (xs.map V.str))
theorem StrL.kq {H H':Hp} {a:Addr} {xs:List Str} (h:StrL H a xs) (k:Kq H H'):StrL H' a xs:=k.keep _ _ (shape_strs xs) h
theorem StrL.same {H H':Hp} {a:Addr} {xs:List Str} (k:Kp [] H H') (h:StrL H a xs):StrL H' a xs:=k.same _ _ h
section
variable {X:Cx} {x:Str} {v:V} {pos:Pos}
def rIsB (K:PySem.W.Frag) (T:String):List V → Hp → VK → Prop:=fun xs H Q => ∃ (x:V) (t:String) (b:Bool),xs = [x,.ty T] ∧ TyX K H x (.type t) ∧ kitB t T = some b ∧ Q (.bl b) H
theorem call_isB (T:String):CallR X (.builtin "isinstance") (rIsB X.K T):=fun pins s σ H xs us Q I r h => by
 obtain ⟨x,t,b,e,ty,k,q⟩:=h
 exact call_isi pins s σ H xs us Q I r ⟨x,.ty T,.type t,.type T,b,e,.ty T,ty,kit_ty k,q⟩
def rIsO (K:PySem.W.Frag) (C:Addr):List V → Hp → VK → Prop:=fun xs H Q => ∃ (x:V) (t:Value) (b:Bool),xs = [x,.ref C] ∧ TyX K H x t ∧ PySem.W.kitOne K t (.ref C) = some b ∧ Q (.bl b) H
theorem call_isO (C:Addr):CallR X (.builtin "isinstance") (rIsO X.K C):=fun pins s σ H xs us Q I r h => by
 obtain ⟨x,t,b,e,ty,k,q⟩:=h
 exact call_isi pins s σ H xs us Q I r ⟨x,.ref C,t,.ref C,b,e,.own C,ty,k,q⟩
def SqA (K:PySem.W.Frag) (H:Hp) (a:Addr) (xs:List V):Prop:=SqL K H a xs ∨ SqT K H a xs
theorem same_rd {H H':Hp} {a:Addr} {u:HO} (k:Same H H') (h:Rd H a u):Rd H' a u:=by
 rcases h with h | ⟨o,h⟩
 ·exact .inl (k _ _ h)
 ·exact .inr ⟨o,k _ _ h⟩
theorem same_sqT {K:PySem.W.Frag} {H H':Hp} {a:Addr} {xs:List V} (k:Same H H') (h:SqT K H a xs):SqT K H' a xs:=by
 rcases h with h | h
 ·exact .inl (same_rd k h)
 ·exact .inr h
theorem SqA.same {K:PySem.W.Frag} {H H':Hp} {a:Addr} {xs:List V} (k:Kp [] H H') (h:SqA K H a xs):SqA K H' a xs:=h.elim (fun z => .inl (Same.seq k.same z)) fun z => .inr (same_sqT k.same z)
def rIxA (K:PySem.W.Frag):R2:=fun x y H Q => ∃ p xs i v,x = .ref p ∧ y = .int i ∧ SqA K H p xs ∧ atI xs i = some v ∧ Q v H
theorem ix_any {K:PySem.W.Frag} (hK:X.K = K:=by rfl):IxR X (rIxA K):=by
 subst hK
 intro value slice pins s σ H x y v u Q I rx ry h hs
 obtain ⟨p,xs,i,w,e1,e2,ha,a,q⟩:=h
 rcases ha with z | z
 ·exact ix_list value slice pins s σ H x y v u Q I rx ry ⟨p,xs,i,w,e1,e2,z,a,q⟩ hs
 ·exact ix_tup value slice pins s σ H x y v u Q I rx ry ⟨p,xs,i,w,e1,e2,z,a,q⟩ hs
end
end GB
namespace GB
open PySem PySem.Spec PyProof.Rows L2
def AccTo (D:Addr) (i:Nat) (I:Nat → List V → Hp → Prop) (y:V) (H4:Hp):Prop :=
 ∃ acc,H4 D = some (.lst acc) ∧ acc.length < sizeLine ∧ ∃ ys,ys.length = i + 1 ∧ upd H4 D (.lst (acc ++ [y])) D = some (.lst ys) ∧ I (i + 1) ys (upd H4 D (.lst (acc ++ [y])))
section
variable {J:It} {n i0:Nat} {G:Hp → Prop} {Y:Nat → Hp → V → Hp → Prop} {te:TE} {σ:L2.St} {H1:Hp} {D:Addr} {Qd:Hp → Prop}
theorem wipe1 (σ:L2.St) (i:Nat) (x:V):wipe ((wipe σ [i]).set i (some x)) [i] = wipe σ [i]:=by
 show ((σ.set i none).set i (some x)).set i none = σ.set i none
 rw [List.set_set,List.set_set]
theorem lc_acc (w:Walk J n G Y) (I:Nat → List V → Hp → Prop) (h0:I 0 [] (upd H1 D (.lst []))) (hG:∀ i ys H,i ≤ n → ys.length = i → H D = some (.lst ys) → I i ys H → G H)
  (hs:∀ i x ys H H',i < n → ys.length = i → H D = some (.lst ys) → I i ys H → Y i H x H' → te ((wipe σ [i0]).set i0 (some x)) H' (AccTo D i I))
  (hd:∀ ys H,ys.length = n → H D = some (.lst ys) → I n ys H → Qd H) :
  ∃ W:Nat → Nat → Hp → Prop,(∃ m,W 0 m (upd H1 D (.lst []))) ∧ ∀ i m H,W i m H →
   (J.stop i H ∧ Qd H) ∨ (J.go i H ∧ ∃ Nx:Hp → Prop,(∀ H',Nx H' → ∃ m',m' < m ∧ W (i + 1) m' H') ∧ ∀ x H',J.yld i H x H' → gName i0 x (wipe σ [i0]) H' fun σ2 H2 => wipe σ2 [i0] = wipe σ [i0] ∧ tYes σ2 H2 fun b H3 =>
    if b = true then te σ2 H3 fun y H4 => ∃ acc,H4 D = some (.lst acc) ∧ acc.length < sizeLine ∧ Nx (upd H4 D (.lst (acc ++ [y]))) else Nx H3):=by
 refine lc_it w (fun i H => ∃ ys,ys.length = i ∧ H D = some (.lst ys) ∧ I i ys H) ⟨[],rfl,upd_same,h0⟩ (fun i H hi ⟨ys,a,b,c⟩ => hG i ys H hi a b c) ?_ (fun H ⟨ys,a,b,c⟩ => hd ys H a b c)
 rintro i x H H' hi ⟨ys,a,b,c⟩ y
 refine ⟨wipe1 σ i0 x,?_⟩
 have z:=hs i x ys H H' hi a b c y
 unfold AccTo at z
 simp only [tYes,if_true]
 exact z
theorem lc_map (w:Walk J n G Y) (hn:n ≤ sizeLine) (f:Nat → V) (hD:H1 D = none) (hG:∀ H,Kp [] H1 H → G H)
  (hs:∀ i x H H',i < n → H D = some (.lst ((List.range i).map f)) → Kp [] H1 H → Y i H x H' → te ((wipe σ [i0]).set i0 (some x)) H' (AccTo D i fun j ys H => Kp [] H1 H ∧ ys = (List.range j).map f))
  (hd:∀ H,H D = some (.lst ((List.range n).map f)) → Kp [] H1 H → Qd H) :
  ∃ W:Nat → Nat → Hp → Prop,(∃ m,W 0 m (upd H1 D (.lst []))) ∧ ∀ i m H,W i m H →
   (J.stop i H ∧ Qd H) ∨ (J.go i H ∧ ∃ Nx:Hp → Prop,(∀ H',Nx H' → ∃ m',m' < m ∧ W (i + 1) m' H') ∧ ∀ x H',J.yld i H x H' → gName i0 x (wipe σ [i0]) H' fun σ2 H2 => wipe σ2 [i0] = wipe σ [i0] ∧ tYes σ2 H2 fun b H3 =>
    if b = true then te σ2 H3 fun y H4 => ∃ acc,H4 D = some (.lst acc) ∧ acc.length < sizeLine ∧ Nx (upd H4 D (.lst (acc ++ [y]))) else Nx H3):=by
 refine lc_acc w (fun j ys H => Kp [] H1 H ∧ ys = (List.range j).map f) ⟨Kp.new hD,rfl⟩ (fun i ys H _ _ _ c => hG H c.1) (fun i x ys H H' hi a b c y => hs i x H H' hi (by rw [b,c.2]) c.1 y) (fun ys H a b c => hd H (by rw [b,c.2]) c.1)
end
end GB
namespace GB
open PySem PySem.Spec PyProof.Rows L2
theorem valsAbs:∀ {xs:List V} {us:List Value},us.map absV = xs.map some → Vals xs us
 | [],[],_ => .nil
 | [],_ :: _,e => by simp at e
 | _ :: _,[],e => by simp at e
 | x :: xs,u :: us,e => by
  simp only [List.map_cons,List.cons.injEq] at e
  refine .cons ?_ (valsAbs e.2)
  have:=e.1
  cases u <;> simp only [absV,Option.some.injEq,reduceCtorEq] at this <;> subst this <;> first | rfl | exact ⟨_,rfl⟩
theorem kTup {K:PySem.W.Frag} {a:Addr} {od:Option Addr} {its:Array Value} {n:Nat} {sl:Array (Option Value)} {xs:List V} (l:K.lookup a = some ⟨.type "tuple",od,.seq its n,sl⟩) (e:its.toList.map absV = xs.map some) (hz:its.size ≤ sizeLine) (H:Hp):SqT K H a xs :=
 .inr ⟨_,its,n,l,rfl,rfl,hz,valsAbs e⟩
theorem Rd.kqT {H H':Hp} {a:Addr} {xs:List V} (k:Kq H H') (h:Rd H a (.tup xs)):Rd H' a (.tup xs):=by
 rcases h with h | ⟨o,h⟩
 ·exact .inl (k.keep _ _ rfl h)
 ·exact .inr ⟨o,k.keep _ _ rfl h⟩
theorem SqT.kq {K:PySem.W.Frag} {H H':Hp} {a:Addr} {xs:List V} (k:Kq H H') (h:SqT K H a xs):SqT K H' a xs:=h.elim (fun z => .inl (Rd.kqT k z)) .inr
theorem SqT.kp {K:PySem.W.Frag} {H H':Hp} {a:Addr} {xs:List V} (k:Kp [] H H') (h:SqT K H a xs):SqT K H' a xs:=same_sqT k.same h
theorem dpStrs {K:PySem.W.Frag} {H:Hp}:∀ xs:List Str,DpAll K H (xs.map V.str) (xs.map PyData.str)
 | [] => .nil
 | n :: ns => .cons (.str n) (dpStrs ns)
theorem layStrs:∀ ns:List Str,(∀ x ∈ ns,PyData.strOk x = true) → PyData.canLayAll0 (ns.map PyData.str) = true
 | [],_ => rfl
 | n :: ns,h => by simp [PyData.canLayAll0,PyData.canLay0,layStrs ns (fun x z => h x (List.mem_cons_of_mem _ z)),h n (List.mem_cons_self ..)]
theorem depStrs:∀ ns:List Str,PyData.depthAll (ns.map PyData.str) = 0
 | [] => rfl
 | n :: ns => by simp [PyData.depthAll,PyData.depth,depStrs ns]
theorem eqvStrs:∀ ns ms:List Str,PyData.eqvAll (ns.map PyData.str) (ms.map PyData.str) = decide (ns = ms)
 | [],[] => by simp [PyData.eqvAll]
 | [],m :: ms => by simp [PyData.eqvAll]
 | n :: ns,[] => by simp [PyData.eqvAll]
 | n :: ns,m :: ms => by
  have ih:=eqvStrs ns ms
  simp only [List.map_cons,PyData.eqvAll,ih,PyData.eqv,List.cons.injEq]
  by_cases h:n = m <;> by_cases h2:ns = ms <;> simp [h,h2]
end GB
namespace Tb
open PySem PySem.Spec PyProof.Rows L2 GB
inductive Lie where
 | copied | anyhow | zero
 | dealt (r:Str) (cs:List Str)
deriving DecidableEq
structure Bare where
 name:Str
 cols:List Str
 key:List Str
 lie:Lie
deriving DecidableEq
def Lie.data:Lie → PyData
 | .copied => .tuple [.str "copied"]
 | .anyhow => .tuple [.str "anyhow"]
 | .zero => .tuple [.str "zero"]
 | .dealt r cs => .tuple [.str "dealt",.str r,.tuple (cs.map .str)]
def Bare.data (b:Bare):PyData := .list [.str b.name,.list (b.cols.map .str),.list (b.key.map .str),b.lie.data]
def LieAt (K:PySem.W.Frag) (H:Hp) (v:V):Lie → Prop
 | .copied => ∃ a,v = .ref a ∧ SqT K H a [.str "copied"]
 | .anyhow => ∃ a,v = .ref a ∧ SqT K H a [.str "anyhow"]
 | .zero => ∃ a,v = .ref a ∧ SqT K H a [.str "zero"]
 | .dealt r cs => ∃ a b,v = .ref a ∧ SqT K H a [.str "dealt",.str r,.ref b] ∧ SqT K H b (cs.map .str)
def BareAt (K:PySem.W.Frag) (H:Hp) (v:V) (b:Bare):Prop:=∃ p c k l,v = .ref p ∧ H p = some (.lst [.str b.name,.ref c,.ref k,l]) ∧ StrL H c b.cols ∧ StrL H k b.key ∧ LieAt K H l b.lie
def TabAt (K:PySem.W.Frag) (C:Addr) (H:Hp) (v:V) (b:Bare):Prop:=∃ p dx c k l,v = .ref p ∧ H p = some (.ins C dx [("name",.str b.name),("columns",.ref c),("key",.ref k),("lies",l)]) ∧ StrL H c b.cols ∧ StrL H k b.key ∧ LieAt K H l b.lie
variable {K:PySem.W.Frag} {H H':Hp} {v:V} {l:Lie} {b:Bare} {C:Addr}
theorem LieAt.kq (k:Kq H H') (h:LieAt K H v l):LieAt K H' v l:=by
 cases l with
 | dealt r cs => obtain ⟨a,b,e,h1,h2⟩:=h; exact ⟨a,b,e,SqT.kq k h1,SqT.kq k h2⟩
 | _ => obtain ⟨a,e,h1⟩:=h; exact ⟨a,e,SqT.kq k h1⟩
theorem LieAt.same (k:Kp [] H H') (h:LieAt K H v l):LieAt K H' v l:=h.kq k.q
theorem BareAt.kq (k:Kq H H') (h:BareAt K H v b):BareAt K H' v b:=by
 obtain ⟨p,c,d,l,e,h1,h2,h3,h4⟩:=h
 exact ⟨p,c,d,l,e,k.keep _ _ rfl h1,h2.kq k,h3.kq k,h4.kq k⟩
theorem BareAt.same (k:Kp [] H H') (h:BareAt K H v b):BareAt K H' v b:=h.kq k.q
theorem TabAt.kq (k:Kq H H') (h:TabAt K C H v b):TabAt K C H' v b:=by
 obtain ⟨p,dx,c,d,l,e,h1,h2,h3,h4⟩:=h
 exact ⟨p,dx,c,d,l,e,k.keep _ _ rfl h1,h2.kq k,h3.kq k,h4.kq k⟩
theorem TabAt.same (k:Kp [] H H') (h:TabAt K C H v b):TabAt K C H' v b:=h.kq k.q
theorem LieAt.dp (h:LieAt K H v l):Dp K H v l.data:=by
 cases l with
 | dealt r cs => obtain ⟨a,b,rfl,h1,h2⟩:=h; exact .tup h1 (.cons (.str _) (.cons (.str _) (.cons (.tup h2 (dpStrs cs)) .nil)))
 | _ => obtain ⟨a,rfl,h1⟩:=h; exact .tup h1 (.cons (.str _) .nil)
theorem StrL.dp {a:Addr} {xs:List Str} (h:StrL H a xs):Dp K H (.ref a) (.list (xs.map .str)) := .lst (SqL.of h) (dpStrs xs)
theorem BareAt.dp (h:BareAt K H v b):Dp K H v b.data:=by
 obtain ⟨p,c,d,l,rfl,h1,h2,h3,h4⟩:=h
 exact .lst (SqL.of h1) (.cons (.str _) (.cons (StrL.dp h2) (.cons (StrL.dp h3) (.cons h4.dp .nil))))
def Lie.sok:Lie → Prop
 | .dealt r cs => PyData.strOk r = true ∧ ∀ x ∈ cs,PyData.strOk x = true
 | _ => True
structure Bare.sok (b:Bare):Prop where
 name:PyData.strOk b.name = true
 cols:∀ x ∈ b.cols,PyData.strOk x = true
 key:∀ x ∈ b.key,PyData.strOk x = true
 lie:b.lie.sok
theorem wordsOk:PyData.strOk "copied" = true ∧ PyData.strOk "anyhow" = true ∧ PyData.strOk "zero" = true ∧ PyData.strOk "dealt" = true:=by decide +kernel
theorem Lie.lay (l:Lie) (h:l.sok):l.data.canLay0 = true:=by
 cases l with
 | dealt r cs => simp [Lie.data,PyData.canLay0,PyData.canLayAll0,layStrs cs h.2,h.1,wordsOk.2.2.2]
 | copied => simp [Lie.data,PyData.canLay0,PyData.canLayAll0,wordsOk.1]
 | anyhow => simp [Lie.data,PyData.canLay0,PyData.canLayAll0,wordsOk.2.1]
 | zero => simp [Lie.data,PyData.canLay0,PyData.canLayAll0,wordsOk.2.2.1]
theorem Lie.dep (l:Lie):l.data.depth ≤ 2:=by
 cases l <;> simp [Lie.data,PyData.depth,PyData.depthAll,depStrs]
theorem Lie.shaped (l:Lie) (h:l.sok):SeqAt.shaped l.data = true:=by
 have:=l.dep
 simp [SeqAt.shaped,l.lay h]; omega
theorem Bare.shaped (b:Bare) (h:b.sok):SeqAt.shaped b.data = true:=by
 have:=b.lie.dep
 simp [SeqAt.shaped,Bare.data,PyData.canLay0,PyData.canLayAll0,PyData.depth,PyData.depthAll,layStrs _ h.cols,layStrs _ h.key,h.name,b.lie.lay h.lie,depStrs]; omega
theorem beq_dec (a b:Str):(a == b) = decide (a = b):=by
 by_cases h:a = b
 ·subst h; simp
 ·simp [h]
theorem Lie.eqv (l m:Lie):PyData.eqv l.data m.data = decide (l = m):=by
 cases l <;> cases m <;> first | (simp [Lie.data,PyData.eqv,PyData.eqvAll,eqvStrs,beq_dec]; done) | (simp [Lie.data,PyData.eqv,PyData.eqvAll,eqvStrs]; decide)
theorem Bare.eqv (b c:Bare):PyData.eqv b.data c.data = decide (b = c):=by
 obtain ⟨n,cs,ks,l⟩:=b
 obtain ⟨n',cs',ks',l'⟩:=c
 simp only [Bare.data,PyData.eqv,PyData.eqvAll,eqvStrs,Lie.eqv,Bare.mk.injEq,beq_dec]
 simp [Bool.decide_and]
end Tb
namespace G1
open PySem PySem.Spec PyProof.Rows L2 GB
structure KMk (P:Program) (w:World) (K:PySem.W.Frag) (mg:Str → Option Value) (base:Heap) (k:Nat) (x:Str) (C:Addr) (n:Nat) (ks:List Str) (gV:List V → List V → List V) (sp:Sp):Prop where
 ex:∃ (f:Addr) (fd:FuncData) (ps:List Str) (g:List Value → List Value → List Value),Mk K C f ∧ FnOk P w K mg base CX0 k f fd ps sp ∧ mg x = some (.ref C) ∧ KBn K fd ps (n + 1) ks g gV
section
variable {X:Cx} {k j n:Nat} {C:Addr} {x:Str} {sp:Sp} {p pos:Pos} {e:Expr} {es:List Expr} {kws:List Keyword} {t tk:TA} {ks:List Str} {gV:List V → List V → List V}
theorem pe_kmk (c:KMk X.prog X.w X.K X.mg X.base k x C n ks gV sp) (hr:Room j X.A) (hk:k + 1 ≤ j) (hg:Gl X x) (ha:PA X (e :: es) t) (hkw:PK X kws tk)
  (hall:(backToKw pos (keywordEach kws X.env)).all (·.1.isSome) = true:=by rfl) (hks:(backToKw pos (keywordEach kws X.env)).filterMap (·.1) = ks:=by rfl) (hdb:(x == ("__debug__" : Str)) = false:=by decide)
  (he:starEach (e :: es) X.env = (false,eval e X.env) :: starEach es X.env:=by rfl) (hpl:((backTo pos (starEach (e :: es) X.env)).any (·.1) || (backToKw pos (keywordEach kws X.env)).any (·.1.isNone)) = false:=by rfl) :
  PE X (.Call (.Name x p) (e :: es) kws pos) (tMakeK C n ks.length sp gV E0 t tk):=by
 obtain ⟨f,fd,ps,g,M,F,hm,hb⟩:=c.ex
 exact pe_makeK M F (hr.mono hk) hg hm hb pass0 ha hkw hall hks hdb he hpl
end
end G1
namespace Tb
open PySem PySem.Spec PyProof.Rows L2 GB
section
variable {K:PySem.W.Frag} {H:Hp} {x dx C a:Addr} {fs:List (Str × V)} {o:HO} {xs:List V}
theorem putI {b:Addr} {u:HO} (h:H x = some (.ins C dx fs)) (n:∀ C dx fs,u ≠ .ins C dx fs) (e:H b = some u):upd H x o b = some u:=by
 rw [upd_ne (fun z => by subst z; rw [h] at e; exact n _ _ _ (Option.some.inj e).symm)]; exact e
theorem Rd.put {u:HO} (h:H x = some (.ins C dx fs)) (n:∀ C dx fs,u ≠ .ins C dx fs) (e:Rd H a u):Rd (upd H x o) a u:=by
 rcases e with e | ⟨z,e⟩
 ·exact .inl (putI h n e)
 ·exact .inr ⟨z,putI h (fun _ _ _ w => nomatch w) e⟩
theorem SqT.put (h:H x = some (.ins C dx fs)) (e:SqT K H a xs):SqT K (upd H x o) a xs:=e.elim (fun z => .inl (Rd.put h (fun _ _ _ w => nomatch w) z)) .inr
theorem SqL.put (h:H x = some (.ins C dx fs)) (e:SqL K H a xs):SqL K (upd H x o) a xs:=e.elim (fun z => .inl (Rd.put h (fun _ _ _ w => nomatch w) z)) .inr
theorem SqA.put (h:H x = some (.ins C dx fs)) (e:SqA K H a xs):SqA K (upd H x o) a xs:=e.elim (fun z => .inl (SqL.put h z)) fun z => .inr (SqT.put h z)
theorem StrL.put {ys:List Str} (h:H x = some (.ins C dx fs)) (e:StrL H a ys):StrL (upd H x o) a ys:=putI h (fun _ _ _ w => nomatch w) e
theorem LieAt.put {v:V} {l:Lie} (h:H x = some (.ins C dx fs)) (e:LieAt K H v l):LieAt K (upd H x o) v l:=by
 cases l with
 | dealt r cs => obtain ⟨a,b,e,h1,h2⟩:=e; exact ⟨a,b,e,SqT.put h h1,SqT.put h h2⟩
 | _ => obtain ⟨a,e,h1⟩:=e; exact ⟨a,e,SqT.put h h1⟩
end
end Tb
namespace GB
open PySem PySem.Spec PyProof.Rows L2
end GB
namespace G1
open PySem PySem.Spec PyProof.Rows L2 GB
def spStar (n:Nat) (sp:Sp):Sp:=fun vs H Q E => ∃ ws rest,vs = ws ++ rest ∧ ws.length = n ∧ rest.length ≤ sizeLine ∧ ∀ p,H p = Option.none → sp (ws ++ [V.ref p]) (upd H p (.tup rest)) Q E
structure CalR (P:Program) (w:World) (K:PySem.W.Frag) (mg:Str → Option Value) (base:Heap) (k:Nat) (x:Str) (sp:Sp):Prop where
 ex:∃ f:Addr,FnR P w K mg base CX0 k f sp ∧ mg x = some (.ref f) ∧ PySem.W.keepIn K (.ref f) = true
section
variable {P:Program} {w:World} {K:PySem.W.Frag} {mg:Str → Option Value} {base:Heap}
theorem calR {k:Nat} {x pv:Str} {st:Stmt} {N ps:List Str} {sp:Sp} (D:Dfn K mg x st) (S:FnScope N (ps ++ [pv]) (defScope st))
  (hb:∀ (kV doc pm:Value) (an:Option Addr) (cdv ct:Value) (us rest:List Value),us.length = ps.length → bindArgs (PySem.W.fnOf x x (defArgs st) (defBody st) (defScope st) .none kV doc pm an cdv ct) ⟨us ++ rest,[]⟩ = (newTuple rest >>= fun t => pure (ps.zip us ++ [(pv,t)])))
  (body:∀ (f:Addr) (cdv:Value) (A:Around) (outer:List Env) (s:Shared) (H:Hp) (vs:List V) (Q:VK) (E:XK),
   Room k (A.deeper (envOfC x (defScope st) s.heap.objs.size f cdv)) → sp vs H Q E →
   ∃ t,PSs (cxOf CX0 P w K mg base N x (defScope st) f cdv A outer s H E).nox (defBody st) t ∧ t { nx:=fun _ H' => Q .non H',rt:=Q } (start N vs) H) :
  CalR P w K mg base (k + 1) x (spStar ps.length sp):=by
 obtain ⟨f,fd,F,a⟩:=D.ex
 obtain ⟨oc,od,kV,doc,pm,an,cdv,ct,osl,rfl,lk,hcd⟩:=F.ex
 refine ⟨f,StX.fn_star lk hcd S StX.cxUp_none (hb kV doc pm an cdv ct) (fun A outer s H vs Q E hr hsp => ?_),a,F.kp⟩
 obtain ⟨t,h,q⟩:=body f cdv A outer s H vs Q E hr hsp
 exact ⟨t,h.nox,q⟩
end
section
variable {X:Cx} {k j:Nat} {C:Addr} {x m:Str} {sp:Sp} {p pos apos:Pos} {e o:Expr} {es:List Expr} {ta:TE} {t:TA}
theorem run_R {f:Addr} {pins:List (Addr × Obj)} {σ:L2.St} {H:Hp} {s:Shared} {Q:VK} {us:List Value} {vs:List V} (F:FnR X.prog X.w X.K X.mg X.base CX0 k f sp) (hr:Room k X.A) (I:Inv X pins σ H s) (r:Vals vs us) (h:sp vs H Q E0) :
  wpAny (model X.prog X.w) X.A (call (.ref f) us) (EP X pins σ Q) X.xe s:=by
 refine wpAny_call (codeAny_mono (F X.A X.stack s H us vs Q E0 hr I.env0 r h) fun res s' hq => ?_)
 match res,hq with
 | .error e,hq => exact False.elim hq
 | .ok (.ret u),hq => exact I.after hq
 | .ok .next,hq => exact False.elim hq
 | .ok .brk,hq => exact False.elim hq
 | .ok .cont,hq => exact False.elim hq
theorem pe_cR (c:CalR X.prog X.w X.K X.mg X.base k x sp) (hr:Room j X.A) (hk:k ≤ j) (hg:Gl X x) (ha:PA X (e :: es) t)
  (hdb:(x == ("__debug__" : Str)) = false:=by decide) (he:starEach (e :: es) X.env = (false,eval e X.env) :: starEach es X.env:=by rfl) (hpl:(backTo pos (starEach es X.env)).any (·.1) = false:=by rfl) :
  PE X (.Call (.Name x p) (e :: es) [] pos) (fun σ H Q => t σ H fun vs H1 => sp vs H1 Q E0):=by
 obtain ⟨f,F,hm,kp⟩:=c.ex
 refine ⟨fun pins s σ H Q I h => wpAny_Call_Name_kw (ld_glob I hg hm ?_ hdb)⟩
 refine PySem.W.callWith_K (h₀:=X.base) I.ok.mod.kin kp (thn (ha.run pos pins s σ H _ I h) fun us s1 ⟨vs,H1,I1,r,q⟩ => ⟨I1.kIn,?_⟩) he hpl
 exact run_R F (hr.mono hk) I1 r q
end
end G1
namespace GB
open PySem PySem.Spec PyProof.Rows L2
theorem pe_fldK {X:Cx} {e:Expr} {f:Str} {pos:Pos} {ta:TE} {K:PySem.W.Frag} (hK:X.K = K) (he:PE X e ta) (hb:attributeBase e f X.env (eval e X.env) = eval e X.env):PE X (.Attribute e f pos) (tFld K ta f):=hK ▸ pe_fld he hb
end GB
namespace G1
open PySem PySem.Spec PyProof.Rows L2 GB
structure DfnD (K:PySem.W.Frag) (mg:Str → Option Value) (x:Str) (st:Stmt) (dvs:List V):Prop where
 ex:∃ (f:Addr) (fd:FuncData),FunD K x x (defArgs st) (defBody st) (defScope st) dvs [] f fd ∧ mg x = some (.ref f)
structure MthN (K:PySem.W.Frag) (C:Addr) (m qual:Str) (st:Stmt) (dvs:List V):Prop where
 ex:∃ (f:Addr) (fd:FuncData),FunD K m qual (defArgs st) (defBody st) (defScope st) dvs [] f fd ∧ PySem.W.findIn K (.ref C) m = some (some (.ref f)) ∧ PySem.W.isFn K (.ref f) = true
structure CalN (P:Program) (w:World) (K:PySem.W.Frag) (mg:Str → Option Value) (base:Heap) (k:Nat) (x:Str) (n:Nat) (ks:List Str) (gV:List V → List V → List V) (sp:Sp):Prop where
 ex:∃ (f:Addr) (fd:FuncData) (ps:List Str) (g:List Value → List Value → List Value),FnOk P w K mg base CX0 k f fd ps sp ∧ mg x = some (.ref f) ∧ PySem.W.keepIn K (.ref f) = true ∧ KBn K fd ps n ks g gV
section
variable {P:Program} {w:World} {K:PySem.W.Frag} {mg:Str → Option Value} {base:Heap}
theorem funD_ok {k:Nat} {x qual:Str} {st:Stmt} {N ps:List Str} {sp:Sp} {dvs:List V} {f:Addr} {fd:FuncData} (F:FunD K x qual (defArgs st) (defBody st) (defScope st) dvs [] f fd) (S:FnScope N ps (defScope st))
  (len:∀ vs H Q E,sp vs H Q E → vs.length = ps.length)
  (body:∀ (f:Addr) (cdv:Value) (A:Around) (outer:List Env) (s:Shared) (H:Hp) (vs:List V) (Q:VK) (E:XK),
   Room k (A.deeper (envOfC qual (defScope st) s.heap.objs.size f cdv)) → sp vs H Q E →
   ∃ t,PSs (cxOf CX0 P w K mg base N qual (defScope st) f cdv A outer s H E).nox (defBody st) t ∧ t { nx:=fun _ H' => Q .non H',rt:=Q } (start N vs) H):FnOk P w K mg base CX0 (k + 1) f fd ps sp:=by
 obtain ⟨oc,od,dV,kV,doc,pm,an,cdv,ct,osl,rfl,lk,hcd,_,_⟩:=F.ex
 refine fn_of lk hcd S len fun A outer s H vs Q E hr hsp => ?_
 obtain ⟨t,h,q⟩:=body f cdv A outer s H vs Q E hr hsp
 exact ⟨t,h.nox,q⟩
theorem calN {k:Nat} {x:Str} {st:Stmt} {N ps:List Str} {sp:Sp} {dvs:List V} (D:DfnD K mg x st dvs) (S:FnScope N ps (defScope st)) (len:∀ vs H Q E,sp vs H Q E → vs.length = ps.length)
  (body:∀ (f:Addr) (cdv:Value) (A:Around) (outer:List Env) (s:Shared) (H:Hp) (vs:List V) (Q:VK) (E:XK),
   Room k (A.deeper (envOfC x (defScope st) s.heap.objs.size f cdv)) → sp vs H Q E →
   ∃ t,PSs (cxOf CX0 P w K mg base N x (defScope st) f cdv A outer s H E).nox (defBody st) t ∧ t { nx:=fun _ H' => Q .non H',rt:=Q } (start N vs) H)
  (n:Nat) (ks:List Str) (g:{α:Type} → List α → List α → List α → List α) (hd:dvs ≠ [])
  (hrel:∀ {vs ds zs:List V} {us its ws:List Value},Vals vs us → Vals ds its → Vals zs ws → Vals (g vs ds zs) (g us its ws))
  (h:∀ (T:Addr) (kV doc pm:Value) (an:Option Addr) (cdv ct:Value) (us its ws:List Value),us.length = n → its.length = dvs.length → ws.length = ks.length →
   ∃ k,bindArgs (PySem.W.fnOf x x (defArgs st) (defBody st) (defScope st) (.ref T) kV doc pm an cdv ct) ⟨us,ks.zip ws⟩ = seqItems? (.ref T) >>= k ∧ k (some its.toArray) = pure (ps.zip (g us its ws))) :
  CalN P w K mg base (k + 1) x n ks (fun vs zs => g vs dvs zs) sp:=by
 obtain ⟨f,fd,F,m⟩:=D.ex
 obtain ⟨its,hb⟩:=F.kbindsD n ks g hd hrel h
 exact ⟨f,fd,ps,_,funD_ok F S len body,m,F.kp,hb⟩
theorem kmkN {k:Nat} {x qual:Str} {C:Addr} {st:Stmt} {N ps:List Str} {sp:Sp} {dvs:List V} (D:MthN K C "__init__" qual st dvs) (Kc:Kls K mg x C) (S:FnScope N ps (defScope st)) (len:∀ vs H Q E,sp vs H Q E → vs.length = ps.length)
  (body:∀ (f:Addr) (cdv:Value) (A:Around) (outer:List Env) (s:Shared) (H:Hp) (vs:List V) (Q:VK) (E:XK),
   Room k (A.deeper (envOfC qual (defScope st) s.heap.objs.size f cdv)) → sp vs H Q E →
   ∃ t,PSs (cxOf CX0 P w K mg base N qual (defScope st) f cdv A outer s H E).nox (defBody st) t ∧ t { nx:=fun _ H' => Q .non H',rt:=Q } (start N vs) H)
  (n:Nat) (ks:List Str) (g:{α:Type} → List α → List α → List α → List α) (hd:dvs ≠ [])
  (hrel:∀ {vs ds zs:List V} {us its ws:List Value},Vals vs us → Vals ds its → Vals zs ws → Vals (g vs ds zs) (g us its ws))
  (h:∀ (T:Addr) (kV doc pm:Value) (an:Option Addr) (cdv ct:Value) (us its ws:List Value),us.length = n + 1 → its.length = dvs.length → ws.length = ks.length →
   ∃ k,bindArgs (PySem.W.fnOf "__init__" qual (defArgs st) (defBody st) (defScope st) (.ref T) kV doc pm an cdv ct) ⟨us,ks.zip ws⟩ = seqItems? (.ref T) >>= k ∧ k (some its.toArray) = pure (ps.zip (g us its ws))) :
  KMk P w K mg base (k + 1) x C n ks (fun vs zs => g vs dvs zs) sp:=by
 obtain ⟨f,fd,F,a,i⟩:=D.ex
 obtain ⟨its,hb⟩:=F.kbindsD (n + 1) ks g hd hrel h
 exact ⟨f,fd,ps,_,⟨Kc.makes,a,i,Kc.kp⟩,funD_ok F S len body,Kc.at_,hb⟩
theorem dfnD_mk {h:Heap} {x:Str} {st:Stmt} {f T:Addr} {oc:Value} {od an:Option Addr} {osl sl:Array (Option Value)} {kV doc pm cdv ct:Value} {cT:Value} {oT:Option Addr} {its:Array Value} {n:Nat} {dvs:List V} (X:K.In h) (G:h.Ns mainGlobals mg)
  (a:PySem.W.nsIn K mainGlobals x = some (some (.ref f))) (l:K.lookup f = some ⟨oc,od,.func (PySem.W.fnOf x x (defArgs st) (defBody st) (defScope st) (.ref T) kV doc pm an cdv ct),osl⟩)
  (c:PySem.W.codeIn K cdv x = true) (k:PySem.W.keepIn K (.ref f) = true) (lT:K.lookup T = some ⟨cT,oT,.seq its n,sl⟩) (e:its.toList.map absV = dvs.map some) (ne:dvs ≠ []):DfnD K mg x st dvs :=
 ⟨f,_,⟨⟨oc,od,_,_,doc,pm,an,cdv,ct,osl,rfl,l,c,.inr ⟨ne,T,_,its.toList,n,rfl,lT,rfl,valsAbs e⟩,.inl rfl⟩,k⟩,PySem.W.mg_of X G a⟩
theorem mthN_mk {m qual:Str} {C:Addr} {st:Stmt} {f T:Addr} {oc:Value} {od an:Option Addr} {osl sl:Array (Option Value)} {kV doc pm cdv ct:Value} {cT:Value} {oT:Option Addr} {its:Array Value} {n:Nat} {dvs:List V}
  (a:PySem.W.findIn K (.ref C) m = some (some (.ref f))) (i:PySem.W.isFn K (.ref f) = true) (l:K.lookup f = some ⟨oc,od,.func (PySem.W.fnOf m qual (defArgs st) (defBody st) (defScope st) (.ref T) kV doc pm an cdv ct),osl⟩)
  (c:PySem.W.codeIn K cdv qual = true) (k:PySem.W.keepIn K (.ref f) = true) (lT:K.lookup T = some ⟨cT,oT,.seq its n,sl⟩) (e:its.toList.map absV = dvs.map some) (ne:dvs ≠ []):MthN K C m qual st dvs :=
 ⟨f,_,⟨⟨oc,od,_,_,doc,pm,an,cdv,ct,osl,rfl,l,c,.inr ⟨ne,T,_,its.toList,n,rfl,lT,rfl,valsAbs e⟩,.inl rfl⟩,k⟩,a,i⟩
end
section
variable {X:Cx} {k j n:Nat} {C:Addr} {x:Str} {sp:Sp} {p pos:Pos} {e:Expr} {es:List Expr} {kws:List Keyword} {t tk:TA} {ks:List Str} {gV:List V → List V → List V}
theorem pe_cN (c:CalN X.prog X.w X.K X.mg X.base k x n ks gV sp) (hr:Room j X.A) (hk:k ≤ j) (hg:Gl X x) (ha:PA X (e :: es) t) (hkw:PK X kws tk)
  (hall:(backToKw pos (keywordEach kws X.env)).all (·.1.isSome) = true:=by rfl) (hks:(backToKw pos (keywordEach kws X.env)).filterMap (·.1) = ks:=by rfl) (hdb:(x == ("__debug__" : Str)) = false:=by decide)
  (he:starEach (e :: es) X.env = (false,eval e X.env) :: starEach es X.env:=by rfl) (hpl:((backTo pos (starEach (e :: es) X.env)).any (·.1) || (backToKw pos (keywordEach kws X.env)).any (·.1.isNone)) = false:=by rfl) :
  PE X (.Call (.Name x p) (e :: es) kws pos) (tCallN n ks.length sp gV E0 t tk):=by
 obtain ⟨f,fd,ps,g,F,hm,kp,hb⟩:=c.ex
 exact pe_callN F (hr.mono hk) hg hm kp hb pass0 ha hkw hall hks hdb he hpl
theorem pe_c0 (c:Cal X.prog X.w X.K X.mg X.base k x sp) (hr:Room j X.A) (hk:k ≤ j) (hg:Gl X x) (hdb:(x == ("__debug__" : Str)) = false:=by decide) :
  PE X (.Call (.Name x p) [] [] pos) (fun _ H Q => sp [] H Q E0):=by
 obtain ⟨f,fd,ps,F,hm,kp,b⟩:=c.ex
 refine ⟨fun pins s σ H Q I h => wpAny_Call_Name_kw (ld_glob I hg hm ?_ hdb)⟩
 exact PySem.W.callWith_K0 I.kIn kp (run_g (us:=[]) (vs:=[]) F (hr.mono hk) b .nil pass0 I .nil h)
end
end G1
namespace GZ
open PySem PySem.Spec PyProof.Rows L2 GB
theorem loopIn {α β:Type} {M:Model} {A:Around} {E:Value → Shared → Prop} {f:α → β → Sem (ForInStep β)} {Q:β → Shared → Prop} (J:List α → β → Shared → Prop)
  (turn:∀ x xs b s,J (x :: xs) b s → wpAny M A (f x b) (fun r s' => match r with | .done b' => Q b' s' | .yield b' => J xs b' s') E s)
  (fin:∀ b s,J [] b s → Q b s):∀ (l:List α) (b:β) (s:Shared),J l b s → wpAny M A (forIn l b f) Q E s
 | [],b,s,h => by rw [List.forIn_nil]; exact wpAny_pure (fin b s h)
 | x :: xs,b,s,h => by
  rw [List.forIn_cons]
  refine wpAny_bind (wpAny_mono (turn x xs b s h) (fun r s' q => ?_) fun _ _ z => z)
  cases r with
  | done b' => exact wpAny_pure q
  | yield b' => exact loopIn J turn fin xs b' s' q
structure Src where
 it:Addr
 l:Addr
 tup:Bool
def Src.at (c:Src) (h:Heap) (k:Nat):Prop:=if c.tup = true then h.IsTupleIter c.it c.l k else h.IsListIter c.it c.l k
def Src.has (c:Src) (h:Heap) (xs:Array Value):Prop:=if c.tup = true then h.IsTuple c.l xs else h.IsList c.l xs
theorem Src.at_of {c:Src} {h h':Heap} {k:Nat} (x:c.at h k) (e:∀ o,h.get? c.it = some o → h'.get? c.it = some o):c.at h' k:=by
 unfold Src.at at *
 split
 ·rename_i t; rw [if_pos t] at x; exact x.at e
 ·rename_i t; rw [if_neg t] at x; exact x.at e
theorem Src.has_of {c:Src} {h h':Heap} {xs:Array Value} (x:c.has h xs) (e:∀ o,h.get? c.l = some o → h'.get? c.l = some o):c.has h' xs:=by
 unfold Src.has at *
 split
 ·rename_i t; rw [if_pos t] at x; obtain ⟨o,a,b⟩:=x; exact ⟨o,e o a,b⟩
 ·rename_i t; rw [if_neg t] at x; obtain ⟨o,a,b⟩:=x; exact ⟨o,e o a,b⟩
theorem Src.lt {c:Src} {h:Heap} {k:Nat} (x:c.at h k):c.it < h.objs.size:=by
 unfold Src.at at x
 split at x
 ·obtain ⟨_,e,_⟩:=x; exact Heap.lt_size e
 ·obtain ⟨_,e,_⟩:=x; exact Heap.lt_size e
theorem Src.obj {c:Src} {h:Heap} {k:Nat} (x:c.at h k):∃ o,h.get? c.it = some o ∧ ∀ v,o.data ≠ .cell v:=by
 unfold Src.at at x
 split at x
 ·obtain ⟨o,e,_,d⟩:=x; exact ⟨o,e,fun v q => by rw [d] at q; cases q⟩
 ·obtain ⟨o,e,_,d⟩:=x; exact ⟨o,e,fun v q => by rw [d] at q; cases q⟩
section
variable {prog:Program} {w:World} {A:Around} {E:Value → Shared → Prop} {s:Shared}
theorem Src.item {c:Src} {k:Nat} {xs:Array Value} {x:Value} {Q:Value → Shared → Prop} (a:c.at s.heap k) (b:c.has s.heap xs) (e:xs[k]? = some x)
  (q:∀ h',c.at h' (k + 1) → Heap.SameBut c.it s.heap h' → Q x { s with heap:=h' }):wpAny (model prog w) A (Builtin.SmallTypes.nextOf (.ref c.it)) Q E s:=by
 unfold Src.at at a q
 unfold Src.has at b
 by_cases t:c.tup = true
 ·rw [if_pos t] at a b
  simp only [if_pos t] at q
  exact RZ.nextOf_tuple_item a b e q
 ·rw [if_neg t] at a b
  simp only [if_neg t] at q
  exact wpAny_nextOf_list_item a b e q
theorem Src.stop {c:Src} {k:Nat} {xs:Array Value} {Q:Value → Shared → Prop} (hh:A.handled = none) (a:c.at s.heap k) (b:c.has s.heap xs) (e:xs[k]? = none)
  (q:∀ h' z,Heap.ExtBut c.it s.heap h' → (∃ o,h'.get? z = some o ∧ o.cls = .type "StopIteration") → E (.ref z) { s with heap:=h' }):wpAny (model prog w) A (Builtin.SmallTypes.nextOf (.ref c.it)) Q E s:=by
 unfold Src.at at a
 unfold Src.has at b
 by_cases t:c.tup = true
 ·rw [if_pos t] at a b
  exact RZ.nextOf_tuple_end hh a b e q
 ·rw [if_neg t] at a b
  exact wpAny_nextOf_list_end hh a b e q
end
abbrev TupO (h:Heap) (T:Addr) (xs:Array Value):Prop:=h.get? T = some { cls := .type "tuple",data := .seq xs }
def its (cs:List Src):List Addr:=cs.map (·.it)
structure Apart (z TI TO:Addr) (cs:List Src):Prop where
 nd:(z :: TI :: TO :: its cs).Nodup
 ls:∀ c ∈ cs,c.l ∉ z :: TI :: TO :: its cs
def Frame (ch:List Addr) (h h':Heap):Prop:=∀ b o,b ∉ ch → h.get? b = some o → h'.get? b = some o
theorem Frame.trans {ch:List Addr} {h h1 h2:Heap} (a:Frame ch h h1) (b:Frame ch h1 h2):Frame ch h h2:=fun c o n e => b c o n (a c o n e)
theorem Frame.same {ch:List Addr} {p:Addr} {h h':Heap} (a:Heap.SameBut p h h') (m:p ∈ ch):Frame ch h h':=fun b o n e => a.extBut b o (fun z => n (z ▸ m)) e
section
variable {prog:Program} {w:World} {A:Around} {E:Value → Shared → Prop} {s:Shared} {z TI TO:Addr} {cs:List Src} {vals:List (Option Value)} {k:Nat}
theorem Apart.zs (D:Apart z TI TO cs) {c:Src} (m:c ∈ cs):c.it ≠ z ∧ c.it ≠ TI ∧ c.it ≠ TO:=by
 have n:=D.nd
 have m2:c.it ∈ its cs:=List.mem_map.mpr ⟨c,m,rfl⟩
 simp only [List.nodup_cons,List.mem_cons,not_or] at n
 exact ⟨fun e => n.1.2.2 (e ▸ m2),fun e => n.2.1.2 (e ▸ m2),fun e => n.2.2.1 (e ▸ m2)⟩
theorem Apart.tz (D:Apart z TI TO cs):TI ≠ z ∧ TO ≠ z ∧ TI ≠ TO:=by
 have n:=D.nd
 simp only [List.nodup_cons,List.mem_cons,not_or] at n
 exact ⟨fun e => n.1.1 e.symm,fun e => n.1.2.1 e.symm,n.2.1.1⟩
structure Mid (s:Shared) (z TI TO:Addr) (cs:List Src) (vals:List (Option Value)) (k:Nat) (pre post:List Src) (s':Shared):Prop where
 cut:cs = pre ++ post
 st:∃ h',s' = { s with heap:=h' }
 zip:IsZip s'.heap z TI TO .ellipsis
 out:∃ cur:Array Value,TupO s'.heap TO cur ∧ cur.size = cs.length ∧ ∀ j,j < pre.length → ∃ x,vals[j]? = some (some x) ∧ cur[j]? = some x
 done:∀ c ∈ pre,c.at s'.heap (k + 1)
 todo:∀ c ∈ post,c.at s'.heap k
 size:s'.heap.objs.size = s.heap.objs.size
 frame:Frame (z :: TO :: its cs) s.heap s'.heap
theorem zip_next {Q:Value → Shared → Prop} (hh:A.handled = none) (D:Apart z TI TO cs) (ne:cs ≠ []) (small:cs.length ≤ 100) (hz:IsZip s.heap z TI TO .none) (hTI:TupO s.heap TI ((its cs).map Value.ref).toArray) (hTO:∃ cur,TupO s.heap TO cur ∧ cur.size = cs.length)
  (hi:∀ c ∈ cs,c.at s.heap k) (lv:vals.length = cs.length) (hv:∀ (j:Nat) (c:Src) (v:Option Value),cs[j]? = some c → vals[j]? = some v → ∃ xs,c.has s.heap xs ∧ xs[k]? = v)
  (hQ:∀ (us:List Value) h',vals = us.map some → IsZip h' z TI TO (rawInt s.heap.objs.size) → (∃ cur,TupO h' TO cur ∧ cur.size = cs.length) → (∀ c ∈ cs,c.at h' (k + 1)) → TupO h' s.heap.objs.size us.toArray → h'.objs.size = s.heap.objs.size + 1 →
   Frame (z :: TO :: its cs) s.heap h' → Q (.ref s.heap.objs.size) { s with heap:=h' })
  (hE:none ∈ vals → ∀ h' e,Frame (z :: TO :: its cs) s.heap h' → (∃ o,h'.get? e = some o ∧ o.cls = .type "StopIteration") → E (.ref e) { s with heap:=h' }) :
  wpAny (model prog w) A (Builtin.«zip.__next__» ⟨[.ref z],[]⟩) (fun fin s' => ∃ v,fin = .done (.ret v) ∧ Q v s') E s:=by
 show wpAny _ _ (field (.ref z) 2 >>= _) _ _ _
 refine wpAny_bind (wpAny_field (x := .bool false) hz rfl rfl ?_)
 show wpAny _ _ (field (.ref z) 3 >>= _) _ _ _
 refine wpAny_bind (wpAny_field (x := .ref TI) hz rfl rfl ?_)
 refine wpAny_bind (wpAny_seqItems hTI rfl ?_)
 have hne:((its cs).map Value.ref).toArray.isEmpty = false:=by cases cs with | nil => exact absurd rfl ne | cons _ _ => rfl
 simp only [hne]
 show wpAny _ _ (Builtin.SmallTypes.ownedTupleIsFree (.ref z) >>= _) _ _ _
 refine wpAny_bind ?_
 unfold Builtin.SmallTypes.ownedTupleIsFree
 refine wpAny_bind (wpAny_field (x := .none) hz rfl rfl (wpAny_pure ?_))
 simp only [if_true]
 refine wpAny_bind (wpAny_rule (wpAny_bind (wpAny_field (x := .ref TO) hz rfl rfl ?_)))
 refine wpAny_bind (wpAny_setField_rec hz (by simp) fun g1 z1 e1 => ?_)
 replace z1:IsZip g1 z TI TO .ellipsis:=z1
 obtain ⟨cur0,hTO,sz0⟩:=hTO
 refine wpAny_bind (loopIn (fun rest b s' => b = ⟨none,PUnit.unit⟩ ∧ ∃ pre post,Mid s z TI TO cs vals k pre post s' ∧ rest = ((its post).map Value.ref).zipIdx pre.length) ?_ ?_ _ _ _ ?_)
 ·rintro ⟨itv,j⟩ rest b s' ⟨rfl,pre,post,M,er⟩
  cases post with
  | nil => simp [its] at er
  | cons c post =>
   have er':(itv,j) :: rest = (Value.ref c.it,pre.length) :: ((its post).map Value.ref).zipIdx (pre.length + 1):=er
   obtain ⟨⟨rfl,rfl⟩,rfl⟩:(itv = Value.ref c.it ∧ j = pre.length) ∧ rest = ((its post).map Value.ref).zipIdx (pre.length + 1):=by simpa using er'
   obtain ⟨cut,⟨h',rfl⟩,mz,⟨cur,mo,ms,mj⟩,md,mt,msz,mf⟩:=M
   have hc:c ∈ cs:=by rw [cut]; simp
   have hj:cs[pre.length]? = some c:=by rw [cut]; simp
   have hjl:pre.length < vals.length:=by rw [lv,cut]; simp
   obtain ⟨xs,hx,hxk⟩:=hv pre.length c vals[pre.length] hj (List.getElem?_eq_getElem hjl)
   have cn:=D.zs hc
   have lc:=D.ls c hc
   have hx':c.has h' xs:=Src.has_of hx fun o e => mf _ o (fun m => lc (by simp only [List.mem_cons] at m ⊢; rcases m with m | m | m <;> simp [m])) e
   have ca:=mt c (List.mem_cons_self ..)
   have nd2:(its cs).Nodup:=by have:=D.nd; simp only [List.nodup_cons] at this; exact this.2.2.2
   have oth:∀ c' ∈ pre ++ post,c'.it ≠ c.it:=by
    intro c' m e
    rw [cut,its,List.map_append,List.map_cons] at nd2
    obtain ⟨_,n2,n3⟩:=List.nodup_append.mp nd2
    rcases List.mem_append.mp m with m | m
    ·exact n3 c'.it (List.mem_map.mpr ⟨c',m,rfl⟩) c.it (List.mem_cons_self ..) e
    ·exact (List.nodup_cons.mp n2).1 (e ▸ List.mem_map.mpr ⟨c',m,rfl⟩)
   refine wpAny_bind (wpAny_onRaise ?_)
   show wpAny _ _ (Builtin.SmallTypes.nextOf (.ref c.it) >>= _) _ _ _
   cases hvv:vals[pre.length] with
   | none =>
    rw [hvv] at hxk
    refine wpAny_bind (Src.stop hh ca hx' hxk fun g e ge he => ?_)
    obtain ⟨oe,hoe,hce⟩:=he
    have gz:IsZip g z TI TO .ellipsis:=ge _ _ cn.1.symm mz
    have hez:e ≠ z:=fun q => by subst q; rw [gz] at hoe; cases hoe; simp at hce
    refine wpAny_setField_rec gz (by simp) fun g3 _ e3 => ?_
    refine hE (by rw [← hvv]; exact List.getElem_mem _) g3 e (fun b o n q => ?_) ⟨oe,e3.extBut _ _ hez hoe,hce⟩
    have n1:b ≠ z:=fun q => n (q ▸ List.mem_cons_self ..)
    have n2:b ≠ c.it:=fun q => n (q ▸ List.mem_cons_of_mem _ (List.mem_cons_of_mem _ (List.mem_map.mpr ⟨c,hc,rfl⟩)))
    exact e3.extBut _ _ n1 (ge _ _ n2 (mf b o n q))
   | some x =>
    rw [hvv] at hxk
    refine wpAny_bind (Src.item ca hx' hxk fun g gc ge => wpAny_pure ?_)
    have go:TupO g TO cur:=ge.extBut _ _ cn.2.2.symm mo
    refine wpAny_bind (wpAny_seqItems go rfl ?_)
    have lj:pre.length < cur.size:=by rw [ms,cut]; simp
    refine wpAny_bind (wpAny_updateSeq go rfl ?_ (by rw [ms]; exact Nat.le_trans small (by decide)) (by rw [Array.size_setIfInBounds,ms]; exact Nat.le_trans small (by decide)))
    have go2:TupO (g.update TO (Obj.mapSeq (·.setIfInBounds pre.length x))) TO (cur.setIfInBounds pre.length x):=by
     show (g.update TO _).get? TO = _
     rw [Heap.get?_update_self _ go rfl]
     simp [Obj.mapSeq]
    have e2:Heap.SameBut TO g (g.update TO (Obj.mapSeq (·.setIfInBounds pre.length x))):=Heap.SameBut.update ..
    generalize g.update TO (Obj.mapSeq (·.setIfInBounds pre.length x)) = g2 at go2 e2 ⊢
    refine wpAny_bind (wpAny_letGo (wpAny_pure ?_))
    have mIt:c.it ∈ z :: TO :: its cs:=List.mem_cons_of_mem _ (List.mem_cons_of_mem _ (List.mem_map.mpr ⟨c,hc,rfl⟩))
    have fr:Frame (z :: TO :: its cs) h' g2:=(Frame.same ge mIt).trans (Frame.same e2 (by simp))
    refine ⟨rfl,pre ++ [c],post,⟨by rw [cut]; simp,⟨g2,rfl⟩,?_,⟨_,go2,by rw [Array.size_setIfInBounds]; exact ms,fun i hi => ?_⟩,fun c' m => ?_,fun c' m => ?_,?_,mf.trans fr⟩,by simp⟩
    ·exact e2.extBut _ _ D.tz.2.1.symm (ge.extBut _ _ cn.1.symm mz)
    ·by_cases hi2:i = pre.length
     ·subst hi2
      exact ⟨x,by rw [List.getElem?_eq_getElem hjl,hvv],by simp [Array.getElem?_setIfInBounds,lj]⟩
     ·have hi3:i < pre.length:=by rw [List.length_append] at hi; simp at hi; omega
      obtain ⟨y,y1,y2⟩:=mj i hi3
      exact ⟨y,y1,by rw [Array.getElem?_setIfInBounds,if_neg (Ne.symm hi2)]; exact y2⟩
    ·rcases List.mem_append.mp m with m | m
     ·have hn:=oth c' (List.mem_append_left _ m)
      have hc':c' ∈ cs:=by rw [cut]; exact List.mem_append_left _ m
      exact Src.at_of (md c' m) fun o q => e2.extBut _ _ (D.zs hc').2.2 (ge.extBut _ _ hn q)
     ·rw [List.mem_singleton.mp m]
      exact Src.at_of gc fun o q => e2.extBut _ _ cn.2.2 q
    ·have hn:=oth c' (List.mem_append_right _ m)
     have hc':c' ∈ cs:=by rw [cut]; exact List.mem_append_right _ (List.mem_cons_of_mem _ m)
     exact Src.at_of (mt c' (List.mem_cons_of_mem _ m)) fun o q => e2.extBut _ _ (D.zs hc').2.2 (ge.extBut _ _ hn q)
    ·show g2.objs.size = _
     rw [e2.1,ge.1]; exact msz
 ·rintro b s' ⟨rfl,pre,post,M,er⟩
  have ep:post = []:=by
   cases post with
   | nil => rfl
   | cons c post => simp [its] at er
  subst ep
  obtain ⟨cut,⟨h',rfl⟩,mz,⟨cur,mo,ms,mj⟩,md,mt,msz,mf⟩:=M
  rw [List.append_nil] at cut
  subst cut
  have ev:vals = cur.toList.map some:=by
   refine List.ext_getElem? fun j => ?_
   by_cases hj:j < cs.length
   ·obtain ⟨x,a,b⟩:=mj j hj
    rw [a,List.getElem?_map,Array.getElem?_toList,b]; rfl
   ·rw [List.getElem?_eq_none (by omega),List.getElem?_eq_none (by simp; omega)]
  refine wpAny_bind (wpAny_seqItems mo rfl ?_)
  refine wpAny_bind (wpAny_newTuple ?_ (by rw [Array.length_toList,ms]; exact Nat.le_trans small (by decide)))
  have zl:z < h'.objs.size:=Heap.lt_size mz
  have ol:TO < h'.objs.size:=Heap.lt_size mo
  show wpAny _ _ (Builtin.SmallTypes.ownedTupleHandOut (.ref z) (.ref h'.objs.size) >>= _) _ _ _
  refine wpAny_bind ?_
  unfold Builtin.SmallTypes.ownedTupleHandOut
  have mz6:IsZip (h'.push { cls := .type "tuple",data := .seq cur.toList.toArray }) z TI TO .ellipsis:=Heap.get?_push_of_some _ mz
  refine wpAny_bind (wpAny_setField_rec mz6 (by simp) fun g7 z7 e7 => ?_)
  replace z7:IsZip g7 z TI TO (rawInt h'.objs.size):=z7
  refine wpAny_setField_rec z7 (by simp) fun g8 z8 e8 => ?_
  replace z8:IsZip g8 z TI TO (rawInt h'.objs.size):=z8
  have up:∀ c o,c ≠ z → h'.get? c = some o → g8.get? c = some o:=fun c o n e => e8.extBut _ _ n (e7.extBut _ _ n (Heap.get?_push_of_some _ e))
  have t8:TupO g8 h'.objs.size cur.toList.toArray:=e8.extBut _ _ (Nat.ne_of_gt zl) (e7.extBut _ _ (Nat.ne_of_gt zl) (Heap.get?_push_size _ rfl))
  have s8:g8.objs.size = h'.objs.size + 1:=by rw [e8.1,e7.1,Heap.size_push]
  have msz':h'.objs.size = s.heap.objs.size:=msz
  refine wpAny_pure ⟨_,rfl,?_⟩
  rw [msz'] at z8 t8 s8
  show Q (.ref h'.objs.size) _
  rw [msz']
  refine hQ cur.toList g8 ev z8 ⟨cur,up _ _ D.tz.2.1 mo,ms⟩ (fun c m => Src.at_of (md c m) fun o q => up _ o (D.zs m).1 q) t8 s8 ?_
  exact fun b o n q => up b o (fun y => n (y ▸ List.mem_cons_self ..)) (mf b o n q)
 ·refine ⟨rfl,[],cs,⟨rfl,⟨g1,rfl⟩,z1,⟨cur0,e1.extBut _ _ D.tz.2.1 hTO,sz0,fun j h => absurd h (Nat.not_lt_zero _)⟩,fun c m => absurd m (List.not_mem_nil),fun c m => Src.at_of (hi c m) fun o q => e1.extBut _ _ (D.zs m).1 q,e1.1,Frame.same e1 (by simp)⟩,by simp⟩
theorem next_zip {Q:Option Value → Shared → Prop} (hh:A.handled = none) (D:Apart z TI TO cs) (ne:cs ≠ []) (small:cs.length ≤ 100) (hz:IsZip s.heap z TI TO .none) (hTI:TupO s.heap TI ((its cs).map Value.ref).toArray) (hTO:∃ cur,TupO s.heap TO cur ∧ cur.size = cs.length)
  (hi:∀ c ∈ cs,c.at s.heap k) (lv:vals.length = cs.length) (hv:∀ (j:Nat) (c:Src) (v:Option Value),cs[j]? = some c → vals[j]? = some v → ∃ xs,c.has s.heap xs ∧ xs[k]? = v)
  (hQ:∀ (us:List Value) h',vals = us.map some → IsZip h' z TI TO (rawInt s.heap.objs.size) → (∃ cur,TupO h' TO cur ∧ cur.size = cs.length) → (∀ c ∈ cs,c.at h' (k + 1)) → TupO h' s.heap.objs.size us.toArray → h'.objs.size = s.heap.objs.size + 1 →
   Frame (z :: TO :: its cs) s.heap h' → Q (some (.ref s.heap.objs.size)) { s with heap:=h' })
  (hE:none ∈ vals → ∀ h',Frame (z :: TO :: its cs) s.heap h' → Q none { s with heap:=h' }):wpAny (model prog w) A (pyNext (.ref z)) Q E s:=by
 have tz:s.TypeIs (.ref z) "zip" := ⟨_,hz,rfl⟩
 unfold pyNext
 refine wpAny_bind (wpAny_attempt (wpAny_callSpecial?_slot (name:=Str.ofString "__next__") tz F.slot_zip_next
  (wpAny_call_entry F.slot_zip_next tz F.entry_zip_next (zip_next hh D ne small hz hTI hTO hi lv hv (fun us h' a1 a2 a3 a4 a5 a6 a7 => wpAny_pure (hQ us h' a1 a2 a3 a4 a5 a6 a7)) fun hn h' e hk he => ?_) (F.args_zip_next_1 _))))
 obtain ⟨o,ho,hc⟩:=he
 exact wpAny_bind (wpAny_isInstance (T := "StopIteration") (b:=true) ⟨o,ho,hc⟩ isSubtype_stop (wpAny_pure (hE hn _ hk)))
end
def SqB (K:PySem.W.Frag) (H:Hp) (p:Addr × Bool) (xs:List V):Prop:=if p.2 = true then SqT K H p.1 xs else SqL K H p.1 xs
theorem SqA.b {K:PySem.W.Frag} {H:Hp} {a:Addr} {xs:List V} (h:SqA K H a xs):∃ t,SqB K H (a,t) xs:=h.elim (fun z => ⟨false,by simpa [SqB] using z⟩) fun z => ⟨true,by simpa [SqB] using z⟩
theorem SqB.a {K:PySem.W.Frag} {H:Hp} {p:Addr × Bool} {xs:List V} (h:SqB K H p xs):SqA K H p.1 xs:=by
 unfold SqB at h
 split at h
 ·exact .inr h
 ·exact .inl h
inductive Rows (K:PySem.W.Frag) (H:Hp):List (Addr × Bool) → List (List V) → Prop
 | nil:Rows K H [] []
 | cons {p:Addr × Bool} {xs:List V} {ps:List (Addr × Bool)} {xss:List (List V)}:SqB K H p xs → Rows K H ps xss → Rows K H (p :: ps) (xs :: xss)
theorem Rows.length {K:PySem.W.Frag} {H:Hp} {ps:List (Addr × Bool)} {xss:List (List V)} (h:Rows K H ps xss):ps.length = xss.length:=by
 induction h with
 | nil => rfl
 | cons _ _ ih => simp [ih]
inductive Has (h:Heap):List (Addr × Bool) → List (List V) → List (List Value) → Prop
 | nil:Has h [] [] []
 | cons {p:Addr × Bool} {xs:List V} {us:List Value} {ps:List (Addr × Bool)} {xss:List (List V)} {uss:List (List Value)}:(∀ it,Src.has ⟨it,p.1,p.2⟩ h us.toArray) → Vals xs us → p.1 < h.objs.size → Has h ps xss uss → Has h (p :: ps) (xs :: xss) (us :: uss)
section
variable {X:Cx} {pins:List (Addr × Obj)} {σ:L2.St} {H:Hp} {s:Shared}
theorem Rows.has (I:Inv X pins σ H s) {ps:List (Addr × Bool)} {xss:List (List V)} (h:Rows X.K H ps xss):∃ uss,Has s.heap ps xss uss:=by
 induction h with
 | nil => exact ⟨[],.nil⟩
 | cons a _ ih =>
  obtain ⟨uss,ih⟩:=ih
  unfold SqB at a
  split at a
  ·rename_i t
   obtain ⟨us,rv,p,_⟩:=I.tuple a
   obtain ⟨o,ho,_⟩:=id p
   exact ⟨us :: uss,.cons (fun it => by unfold Src.has; rw [if_pos t]; exact p) rv (Heap.lt_size ho) ih⟩
  ·rename_i t
   obtain ⟨us,rv,p,_⟩:=I.list a
   exact ⟨us :: uss,.cons (fun it => by unfold Src.has; rw [if_neg t]; exact p.isList) rv p.lt ih⟩
theorem Rows.inj (I:Inv X pins σ H s) {ps:List (Addr × Bool)} {xss yss:List (List V)} (h:Rows X.K H ps xss) (g:Rows X.K H ps yss):xss = yss:=by
 induction h generalizing yss with
 | nil => cases g; rfl
 | cons a _ ih =>
  cases g with
  | cons b g2 =>
   rw [ih g2]
   congr 1
   unfold SqB at a b
   split at a
   ·rename_i t; rw [if_pos t] at b; exact I.tuple_inj a b
   ·rename_i t; rw [if_neg t] at b; exact I.list_inj a b
end
theorem Has.vals {h:Heap} {ps:List (Addr × Bool)} {xss:List (List V)} {uss:List (List Value)} (z:Has h ps xss uss) {cs:List Src} (e:cs.map (fun c => (c.l,c.tup)) = ps) (k:Nat) :
  (uss.map (·[k]?)).length = cs.length ∧ ∀ (j:Nat) (c:Src) (v:Option Value),cs[j]? = some c → (uss.map (·[k]?))[j]? = some v → ∃ xs:Array Value,c.has h xs ∧ xs[k]? = v:=by
 induction z generalizing cs with
 | nil =>
  have:cs = []:=by simpa using e
  subst this
  exact ⟨rfl,fun j c v a => by simp at a⟩
 | cons a rv lt _ ih =>
  cases cs with
  | nil => simp at e
  | cons c cs =>
   simp only [List.map_cons,List.cons.injEq] at e
   obtain ⟨l1,l2⟩:=ih e.2
   refine ⟨by simpa using l1,fun j c' v e1 e2 => ?_⟩
   cases j with
   | zero =>
    simp at e1 e2
    subst e1 e2
    have:=a c.it
    rw [← e.1] at this
    exact ⟨_,this,by simp⟩
   | succ j => exact l2 j c' v (by simpa using e1) (by simpa using e2)
theorem Has.rel {h:Heap} {ps:List (Addr × Bool)} {xss:List (List V)} {uss:List (List Value)} (z:Has h ps xss uss) {k:Nat} {us:List Value} (e:uss.map (·[k]?) = us.map some):∃ vs,Vals vs us ∧ vs.map some = xss.map (·[k]?):=by
 induction z generalizing us with
 | nil =>
  have:us = []:=by simpa using e.symm
  subst this
  exact ⟨[],.nil,rfl⟩
 | cons a rv lt _ ih =>
  cases us with
  | nil => simp at e
  | cons u us =>
   simp only [List.map_cons,List.cons.injEq] at e
   obtain ⟨vs,r,q⟩:=ih e.2
   have lk:k < (_:List Value).length:=(List.getElem?_eq_some_iff.mp e.1).1
   have lx:=rv.length
   obtain ⟨u',hu,ru⟩:=rv.get (List.getElem?_eq_getElem (lx ▸ lk))
   rw [e.1] at hu
   obtain rfl:=Option.some.inj hu
   exact ⟨_,.cons ru r,by rw [List.map_cons,q,List.map_cons,List.getElem?_eq_getElem (lx ▸ lk)]⟩
theorem Has.none {h:Heap} {ps:List (Addr × Bool)} {xss:List (List V)} {uss:List (List Value)} (z:Has h ps xss uss) {k:Nat}:Option.none ∈ uss.map (·[k]?) ↔ ∃ xs ∈ xss,xs.length ≤ k:=by
 induction z with
 | nil => simp
 | cons a rv lt _ ih =>
  have lx:=rv.length
  simp only [List.map_cons,List.mem_cons,ih,exists_eq_or_imp]
  refine or_congr ?_ Iff.rfl
  constructor
  ·intro e; have:=List.getElem?_eq_none_iff.mp e.symm; omega
  ·intro e; exact (List.getElem?_eq_none_iff.mpr (by omega)).symm
def ItN (K:PySem.W.Frag) (ps:List (Addr × Bool)):It :=
 ⟨fun i H => ∃ (xss:List (List V)),Rows K H ps xss ∧ ∀ xs ∈ xss,i < xs.length,
  fun i H v H' => ∃ T us,v = .ref T ∧ H T = Option.none ∧ H' = upd H T (.tup us) ∧ ∀ xss,Rows K H ps xss → us.map some = xss.map (·[i]?),
  fun i H => ∃ (xss:List (List V)),Rows K H ps xss ∧ ∃ xs ∈ xss,xs.length ≤ i⟩
theorem turnN {P:Program} {w:World} {K:PySem.W.Frag} {elts:List Expr} {kk:Nat} {tpos:Pos} {z TI TO:Addr} {cs:List Src} (D:Apart z TI TO cs) (ne:cs ≠ []) (small:cs.length ≤ 100) :
  Turn P w K (.Tuple elts kk tpos) (ItN K (cs.map fun c => (c.l,c.tup))) (z :: TI :: TO :: its cs) z (fun i h => IsZip h z TI TO .none ∧ TupO h TI ((its cs).map Value.ref).toArray ∧ (∃ cur,TupO h TO cur ∧ cur.size = cs.length) ∧ ∀ c ∈ cs,c.at h i) where
 mem:=List.mem_cons_self ..
 obj:=fun i h st c hc => by
  obtain ⟨a1,a2,⟨cur,a3,_⟩,a4⟩:=st
  rcases List.mem_cons.mp hc with q | hc
  ·rw [q]; exact ⟨_,a1,fun v y => nomatch y⟩
  rcases List.mem_cons.mp hc with q | hc
  ·rw [q]; exact ⟨_,a2,fun v y => nomatch y⟩
  rcases List.mem_cons.mp hc with q | hc
  ·rw [q]; exact ⟨_,a3,fun v y => nomatch y⟩
  obtain ⟨c',m,rfl⟩:=List.mem_map.mp hc
  exact Src.obj (a4 c' m)
 keep:=fun i h h' st k => by
  obtain ⟨a1,a2,⟨cur,a3,a5⟩,a4⟩:=st
  refine ⟨k z (by simp) _ a1,k TI (by simp) _ a2,⟨cur,k TO (by simp) _ a3,a5⟩,fun c m => Src.at_of (a4 c m) fun o q => k c.it ?_ o q⟩
  exact List.mem_cons_of_mem _ (List.mem_cons_of_mem _ (List.mem_cons_of_mem _ (List.mem_map.mpr ⟨c,m,rfl⟩)))
 item:=by
  intro X hP hw hK hc i pins s σ H E I hf st hg
  subst hP hw hK
  obtain ⟨a1,a2,a3,a4⟩:=st
  obtain ⟨xss,hr,hlt⟩:=hg
  obtain ⟨uss,hu⟩:=hr.has I
  obtain ⟨lv,hv⟩:=hu.vals rfl i
  have zl:z < s.heap.objs.size:=Heap.lt_size a1
  refine next_zip (I.ok.hd hc) D ne small a1 a2 a3 a4 lv hv (fun us h' ev z' o' i' t' sz fr => ?_) (fun hn => ?_)
  ·refine ⟨_,rfl,wpAny_letOwnedTupleGo_zip (s:={ s with heap:=h' }) z' fun h2 z2 sb => ?_⟩
   obtain ⟨vs,rv,ex⟩:=hu.rel ev
   have t2:TupO h2 s.heap.objs.size us.toArray:=(sb.2 _ (Nat.ne_of_gt zl)).trans t'
   have ln:vs.length ≤ sizeLine:=by
    have:=congrArg List.length ex
    rw [List.length_map,List.length_map,← hr.length,List.length_map] at this
    rw [this]; exact Nat.le_trans small (by decide)
   have new:ObjOk X.prog X.w (upd H s.heap.objs.size (.tup vs)) h2 s.heap.objs.size (.tup vs):=⟨ln,us,rv,⟨_,t2,rfl,_,rfl⟩⟩
   have I1:Inv X pins σ (upd H s.heap.objs.size (.tup vs)) { s with heap:=h2 } :=
    I.turnedNew (t':=s.toks) (ch:=z :: TI :: TO :: its cs) (fun c o hb q => by
     have n1:c ≠ z:=fun y => hb (y ▸ List.mem_cons_self ..)
     refine (sb.2 c n1).trans (fr c o (fun m => hb ?_) q)
     simp only [List.mem_cons] at m ⊢
     rcases m with m | m | m <;> simp [m]) hf (Nat.le_refl _) new
   refine ⟨.ref s.heap.objs.size,_,I1,rfl,⟨_,vs,rfl,I.hok.fresh (Nat.le_refl _),rfl,fun yss hy => by rw [hy.inj I hr]; exact ex⟩,⟨z2,?_,?_,fun c m => ?_⟩,fun c hcm => ?_⟩
   ·have n0:TI ∉ z :: TO :: its cs:=fun m => by
     have n:=D.nd
     simp only [List.nodup_cons,List.mem_cons,not_or] at n m
     rcases m with m | m | m
     ·exact n.1.1 m.symm
     ·exact n.2.1.1 m
     ·exact n.2.1.2 m
    exact (sb.2 _ D.tz.1).trans (fr _ _ n0 a2)
   ·obtain ⟨cur,o1,o2⟩:=o'
    exact ⟨cur,(sb.2 _ D.tz.2.1).trans o1,o2⟩
   ·exact Src.at_of (i' c m) fun o q => (sb.2 _ (D.zs m).1).trans q
   ·have hlt:c < s.heap.objs.size:=by
     rcases List.mem_cons.mp hcm with q | hcm
     ·rw [q]; exact zl
     rcases List.mem_cons.mp hcm with q | hcm
     ·rw [q]; exact Heap.lt_size a2
     rcases List.mem_cons.mp hcm with q | hcm
     ·rw [q]; obtain ⟨_,o1,_⟩:=a3; exact Heap.lt_size o1
     obtain ⟨c',m,rfl⟩:=List.mem_map.mp hcm
     exact Src.lt (a4 c' m)
    rw [upd_ne (Nat.ne_of_lt hlt)]
    exact (hf c hcm).1
  ·obtain ⟨xs,m,l⟩:=hu.none.mp hn
   have:=hlt xs m
   omega
 done:=by
  intro X hP hw hK hc i pins s σ H E I hf st hg
  subst hP hw hK
  obtain ⟨a1,a2,a3,a4⟩:=st
  obtain ⟨xss,hr,hend⟩:=hg
  obtain ⟨uss,hu⟩:=hr.has I
  obtain ⟨lv,hv⟩:=hu.vals rfl i
  refine next_zip (I.ok.hd hc) D ne small a1 a2 a3 a4 lv hv (fun us h' ev => ?_) (fun hn h' fr => ?_)
  ·have:=hu.none.mpr hend
   rw [ev] at this
   simp at this
  ·exact ⟨rfl,I.turnedL (t':=s.toks) (ch:=z :: TI :: TO :: its cs) (fun c o hb q => fr c o (fun m => hb (by
    simp only [List.mem_cons] at m ⊢
    rcases m with m | m | m <;> simp [m])) q) hf⟩
 self:=fun A i s Q E st h => wpAny_pyIter_zip st.1 h
def YZ (xss:List (List V)):Nat → Hp → V → Hp → Prop:=fun i H v H' => ∃ T us,v = .ref T ∧ H T = Option.none ∧ H' = upd H T (.tup us) ∧ us.map some = xss.map (·[i]?)
theorem walkN {K:PySem.W.Frag} {ps:List (Addr × Bool)} {xss:List (List V)} {n:Nat} (h1:∀ xs ∈ xss,n ≤ xs.length) (h2:∃ xs ∈ xss,xs.length = n):Walk (ItN K ps) n (fun H => Rows K H ps xss) (YZ xss) :=
 ⟨fun i H hi hr => ⟨xss,hr,fun xs m => Nat.lt_of_lt_of_le hi (h1 xs m)⟩,fun H hr => ⟨xss,hr,let ⟨xs,m,e⟩:=h2; ⟨xs,m,Nat.le_of_eq e⟩⟩,fun i H x H' hi hr ⟨T,us,a,b,c,d⟩ => ⟨T,us,a,b,c,d xss hr⟩⟩
abbrev itO (l:Addr) (t:Bool):Obj:={ cls := .type (if t then "tuple_iterator" else "list_iterator"),data := .fields #[.ref l,.int 0 0] }
theorem iterSrc {prog:Program} {w:World} {A:Around} {E:Value → Shared → Prop} {s:Shared} {l:Addr} {t:Bool} {xs:Array Value} {Q:Value → Shared → Prop} (h:∀ it,Src.has ⟨it,l,t⟩ s.heap xs) (q:Q (.ref s.heap.objs.size) { s with heap:=s.heap.push (itO l t) }) :
  wpAny (model prog w) A (pyIter (.ref l)) Q E s:=by
 have h0:=h 0
 unfold Src.has at h0
 cases t with
 | true => exact wpAny_pyIter_tuple h0 q
 | false => exact wpAny_pyIter_list h0 q
end GZ
namespace GZ
open PySem PySem.Spec PyProof.Rows L2 GB
abbrev tupObj (xs:Array Value):Obj:={ cls := .type "tuple",data := .seq xs }
abbrev zipObj (TI TO:Addr):Obj:={ cls := .type "zip",data := .fields #[.none,.bool false,.bool false,.ref TI,.ref TO] }
abbrev made2 (h:Heap) (a b:Addr × Bool):Heap:=(((((h.push (itO a.1 a.2)).push (itO b.1 b.2)).push (tupObj #[.ref h.objs.size,.ref (h.push (itO a.1 a.2)).objs.size])).push (tupObj #[.none,.none])).push
 (zipObj ((h.push (itO a.1 a.2)).push (itO b.1 b.2)).objs.size (((h.push (itO a.1 a.2)).push (itO b.1 b.2)).push (tupObj #[.ref h.objs.size,.ref (h.push (itO a.1 a.2)).objs.size])).objs.size))
theorem new2 (a b:Addr × Bool) (xs ys:Array Value) :
  Meets (Builtin.«zip.__new__» ⟨[.type "zip",.ref a.1,.ref b.1],[]⟩) (fun _ R s => (∀ it,Src.has ⟨it,a.1,a.2⟩ s.heap xs) ∧ (∀ it,Src.has ⟨it,b.1,b.2⟩ s.heap ys) ∧
   R (.ok (.ret (.ref (s.heap.objs.size + 4)))) { s with heap:=made2 s.heap a b }) :=
 .of_wp fun prog w A R s q => by
  obtain ⟨hp,g,d,tk,os⟩:=s
  obtain ⟨q1,q2,q⟩:=q
  have isz:=sub_zip
  have L1:∀ it,Src.has ⟨it,a.1,a.2⟩ (Shared.heap ⟨hp,g,d,tk,os⟩) xs:=q1
  have L2:∀ it,Src.has ⟨it,b.1,b.2⟩ (Shared.heap ⟨hp.push (itO a.1 a.2),g,d,tk,os⟩) ys:=fun it => Src.has_of (q2 it) fun o e => Heap.get?_push_of_some _ e
  wp_walk using iterSrc L1,iterSrc L2
  refine ⟨_,rfl,?_⟩
  simp only [made2,Heap.size_push] at q ⊢
  exact q
theorem itO_at (h:Heap) (p:Addr × Bool) {i:Addr} (e:h.get? i = some (itO p.1 p.2)):Src.at ⟨i,p.1,p.2⟩ h 0:=by
 unfold Src.at
 split
 ·rename_i t
  exact ⟨_,e,by simp only [itO]; rw [if_pos t],rfl⟩
 ·rename_i t
  exact ⟨_,e,by simp only [itO]; rw [if_neg t],rfl⟩
structure Made (h h':Heap) (ps:List (Addr × Bool)):Prop where
 zip:IsZip h' (h.objs.size + ps.length + 2) (h.objs.size + ps.length) (h.objs.size + ps.length + 1) .none
 ti:TupO h' (h.objs.size + ps.length) ((List.range ps.length).map fun j => Value.ref (h.objs.size + j)).toArray
 to:∃ cur,TupO h' (h.objs.size + ps.length + 1) cur ∧ cur.size = ps.length
 at_:∀ j p,ps[j]? = some p → Src.at ⟨h.objs.size + j,p.1,p.2⟩ h' 0
 keep:∀ c o,h.get? c = some o → h'.get? c = some o
theorem made2_ok (h:Heap) (a b:Addr × Bool):Made h (made2 h a b) [a,b]:=by
 have e1:(made2 h a b).get? h.objs.size = some (itO a.1 a.2):=Heap.get?_push_of_some _ (Heap.get?_push_of_some _ (Heap.get?_push_of_some _ (Heap.get?_push_of_some _ (Heap.get?_push_size _ rfl))))
 have e2:(made2 h a b).get? (h.objs.size + 1) = some (itO b.1 b.2):=by
  have:=Heap.get?_push_size (h.push (itO a.1 a.2)) (o:=itO b.1 b.2) rfl
  rw [Heap.size_push] at this
  exact Heap.get?_push_of_some _ (Heap.get?_push_of_some _ (Heap.get?_push_of_some _ this))
 refine ⟨?_,?_,?_,?_,fun c o x => ?_⟩
 ·have:=Heap.get?_push_size ((((h.push (itO a.1 a.2)).push (itO b.1 b.2)).push (tupObj #[.ref h.objs.size,.ref (h.objs.size + 1)])).push (tupObj #[.none,.none])) (o:=zipObj (h.objs.size + 2) (h.objs.size + 3)) rfl
  simp only [Heap.size_push] at this
  show (made2 h a b).get? (h.objs.size + 4) = _
  simp only [made2,Heap.size_push]
  exact this
 ·have:=Heap.get?_push_size ((h.push (itO a.1 a.2)).push (itO b.1 b.2)) (o:=tupObj #[.ref h.objs.size,.ref (h.objs.size + 1)]) rfl
  simp only [Heap.size_push] at this
  show (made2 h a b).get? (h.objs.size + 2) = _
  simp only [made2,Heap.size_push]
  exact Heap.get?_push_of_some _ (Heap.get?_push_of_some _ this)
 ·have:=Heap.get?_push_size (((h.push (itO a.1 a.2)).push (itO b.1 b.2)).push (tupObj #[.ref h.objs.size,.ref (h.objs.size + 1)])) (o:=tupObj #[.none,.none]) rfl
  simp only [Heap.size_push] at this
  refine ⟨#[.none,.none],?_,rfl⟩
  show (made2 h a b).get? (h.objs.size + 3) = _
  simp only [made2,Heap.size_push]
  exact Heap.get?_push_of_some _ this
 ·intro j p e
  match j,e with
  | 0,e => simp at e; subst e; exact itO_at _ _ e1
  | 1,e => simp at e; subst e; exact itO_at _ _ e2
  | j + 2,e => simp at e
 ·exact Heap.get?_push_of_some _ (Heap.get?_push_of_some _ (Heap.get?_push_of_some _ (Heap.get?_push_of_some _ (Heap.get?_push_of_some _ x))))
section
variable {prog:Program} {w:World} {A:Around} {E:Value → Shared → Prop} {s:Shared}
theorem zipped2 {a b:Addr × Bool} {xs ys:Array Value} {Q:Value → Shared → Prop} (h1:∀ it,Src.has ⟨it,a.1,a.2⟩ s.heap xs) (h2:∀ it,Src.has ⟨it,b.1,b.2⟩ s.heap ys)
  (q:∀ h',Made s.heap h' [a,b] → Q (.ref (s.heap.objs.size + 4)) { s with heap:=h' }):wpAny (model prog w) A (call (.type "zip") [.ref a.1,.ref b.1]) Q E s:=by
 refine callType_new F.called_zip (by decide) (F.typeCall_zip_2 ..) (F.newCall_zip_2 ..) (fun obj => F.args_object_init_3 ..) F.entry_zip_new (new2 a b xs ys) ⟨h1,h2,?_⟩
 have M:=made2_ok s.heap a b
 exact ⟨⟨_,M.zip,rfl⟩,q _ M⟩
end
def srcs (n:Nat) (ps:List (Addr × Bool)):List Src:=ps.zipIdx.map fun q => ⟨n + q.2,q.1.1,q.1.2⟩
theorem srcs_ps (n:Nat) (ps:List (Addr × Bool)):(srcs n ps).map (fun c => (c.l,c.tup)) = ps:=by
 refine List.ext_getElem? fun j => ?_
 rw [srcs,List.map_map,List.getElem?_map,List.getElem?_zipIdx]
 cases ps[j]? <;> rfl
theorem srcs_its (n:Nat) (ps:List (Addr × Bool)):its (srcs n ps) = (List.range ps.length).map (n + ·):=by
 refine List.ext_getElem? fun j => ?_
 by_cases h:j < ps.length
 ·simp [srcs,its,h]
 ·simp [srcs,its,h]
theorem srcs_len (n:Nat) (ps:List (Addr × Bool)):(srcs n ps).length = ps.length:=by simp [srcs]
theorem srcs_mem {n:Nat} {ps:List (Addr × Bool)} {c:Src} (m:c ∈ srcs n ps):∃ (j:Nat) (p:Addr × Bool),ps[j]? = some p ∧ c = ⟨n + j,p.1,p.2⟩:=by
 obtain ⟨q,m',rfl⟩:=List.mem_map.mp m
 exact ⟨q.2,q.1,List.mem_zipIdx_iff_getElem?.mp m',rfl⟩
theorem apN (n l:Nat):((n + l + 2) :: (n + l) :: (n + l + 1) :: (List.range l).map (n + ·)).Nodup:=by
 have mi:∀ b,b ∈ (List.range l).map (n + ·) → n ≤ b ∧ b < n + l:=fun b m => by
  obtain ⟨j,hj,rfl⟩:=List.mem_map.mp m
  have:=List.mem_range.mp hj
  omega
 simp only [List.nodup_cons,List.mem_cons,not_or]
 refine ⟨⟨by omega,by omega,fun m => ?_⟩,⟨by omega,fun m => ?_⟩,fun m => ?_,?_⟩
 ·have:=mi _ m; omega
 ·have:=mi _ m; omega
 ·have:=mi _ m; omega
 ·exact List.pairwise_map.mpr (List.nodup_range.imp fun {a b} h (e:n + a = n + b) => h (by omega))
theorem apL (n l p:Nat) (h:p < n):p ∉ ((n + l + 2) :: (n + l) :: (n + l + 1) :: (List.range l).map (n + ·)):=by
 simp only [List.mem_cons,not_or]
 refine ⟨by omega,by omega,by omega,fun m => ?_⟩
 obtain ⟨j,hj,e⟩:=List.mem_map.mp m
 omega
theorem apG (n l p:Nat) (h:p ∈ ((n + l + 2) :: (n + l) :: (n + l + 1) :: (List.range l).map (n + ·))):n ≤ p:=by
 simp only [List.mem_cons] at h
 rcases h with rfl | rfl | rfl | h
 ·omega
 ·omega
 ·omega
 ·obtain ⟨j,_,e⟩:=List.mem_map.mp h
  omega
theorem srcs_apart {n:Nat} {ps:List (Addr × Bool)} (lt:∀ p ∈ ps,p.1 < n):Apart (n + ps.length + 2) (n + ps.length) (n + ps.length + 1) (srcs n ps):=by
 constructor
 ·rw [srcs_its]; exact apN n ps.length
 ·intro c m
  obtain ⟨j,p,e,rfl⟩:=srcs_mem m
  rw [srcs_its]
  exact apL n ps.length p.1 (lt p (List.mem_of_getElem? e))
def iZipN (m:Nat) (K:PySem.W.Frag) (ta:TA):TI:=fun σ H R => ta σ H fun vs H1 => ∃ (ps:List (Addr × Bool)) (xss:List (List V)) (n:Nat),vs = ps.map (fun p => V.ref p.1) ∧ ps.length = m ∧ Rows K H1 ps xss ∧ (∀ xs ∈ xss,n ≤ xs.length) ∧ (∃ xs ∈ xss,xs.length = n) ∧
 ∀ (J:It) (G:Hp → Prop),(∀ H',Rows K H' ps xss → G H') → Walk J n G (YZ xss) → R J H1
theorem Has.lt {h:Heap} {ps:List (Addr × Bool)} {xss:List (List V)} {uss:List (List Value)} (z:Has h ps xss uss):∀ p ∈ ps,p.1 < h.objs.size:=by
 induction z with
 | nil => exact fun p m => absurd m List.not_mem_nil
 | cons a rv lt _ ih =>
  intro p m
  rcases List.mem_cons.mp m with rfl | m
  ·exact lt
  ·exact ih p m
theorem pie_zip {X:Cx} {pins:List (Addr × Obj)} {σ:L2.St} {H:Hp} {s:Shared} {elts:List Expr} {kk:Nat} {tpos:Pos} {R:It → Hp → Prop} {ps:List (Addr × Bool)} {xss:List (List V)} {n:Nat} {h':Heap} (I:Inv X pins σ H s) (hr:Rows X.K H ps xss) (M:Made s.heap h' ps) (ne:ps ≠ []) (small:ps.length ≤ 100)
  (h1:∀ xs ∈ xss,n ≤ xs.length) (h2:∃ xs ∈ xss,xs.length = n) (q:∀ (J:It) (G:Hp → Prop),(∀ H',Rows X.K H' ps xss → G H') → Walk J n G (YZ xss) → R J H) :
  wpAny (model X.prog X.w) X.A (pyIter (.ref (s.heap.objs.size + ps.length + 2))) (PIE X pins σ (.Tuple elts kk tpos) R) X.xe { s with heap:=h' }:=by
 obtain ⟨uss,hu⟩:=hr.has I
 have D:=srcs_apart hu.lt
 have I2:Inv X pins σ H { s with heap:=h' }:=I.kept (t':=s.toks) M.keep
 refine wpAny_pyIter_zip M.zip ?_
 have T:=turnN (P:=X.prog) (w:=X.w) (K:=X.K) (elts:=elts) (kk:=kk) (tpos:=tpos) D (by intro e; have:=srcs_len s.heap.objs.size ps; rw [e] at this; exact ne (List.length_eq_zero_iff.mp this.symm)) (by rw [srcs_len]; exact small)
 rw [srcs_ps] at T
 refine ⟨_,_,_,_,H,rfl,I2,T,⟨M.zip,?_,?_,fun c m => ?_⟩,fun b hb => ?_,q _ _ (fun H' r => r) (walkN h1 h2)⟩
 ·rw [srcs_its,List.map_map]; exact M.ti
 ·rw [srcs_len]; exact M.to
 ·obtain ⟨j,p,e,rfl⟩:=srcs_mem m
  exact M.at_ j p e
 ·rw [srcs_its] at hb
  have ge:s.heap.objs.size ≤ b:=apG _ _ _ hb
  exact I.fpOk ge (I.hok.fresh ge)
theorem vals_refs {vs:List V} {us:List Value} {as:List Addr} (r:Vals vs us) (e:vs = as.map V.ref):us = as.map Value.ref:=by
 subst e
 exact refs_at r
theorem pi_zip2 {X:Cx} {e e2:Expr} {ta:TA} {p pos tpos:Pos} {elts:List Expr} {kk:Nat} (hg:Gl X "zip") (hm:X.mg "zip" = none) (ha:PA X [e,e2] ta)
  (hst:starEach [e,e2] X.env = (false,eval e X.env) :: starEach [e2] X.env:=by rfl) (hp:(backTo pos (starEach [e2] X.env)).any (·.1) = false:=by rfl) :
  PI X (.Tuple elts kk tpos) (.Call (.Name "zip" p) [e,e2] [] pos) (iZipN 2 X.K ta):=by
 refine ⟨fun pins s σ H R I h => ?_⟩
 refine Call_ (ld_blt I hg hm PyProof.Rows.boot_zip (PyProof.Rows.callWith_type1 (thn (ha.run pos pins s σ H _ I h) ?_) hst hp))
 rintro us s1 ⟨vs,H1,I1,r1,ps,xss,n,ev,lp,hr,h1,h2,q⟩
 rw [show ps.map (fun p => V.ref p.1) = (ps.map (·.1)).map V.ref by rw [List.map_map]; rfl] at ev
 obtain rfl:=vals_refs r1 ev
 match ps,lp,hr with
 | [a,b],_,hr =>
  obtain ⟨uss,hu⟩:=hr.has I1
  cases hu with
  | cons a1 _ _ hu =>
   cases hu with
   | cons a2 _ _ hu => exact zipped2 a1 a2 fun h' M => pie_zip I1 hr M (by simp) (by simp) h1 h2 q
end GZ
namespace GB
open PySem PySem.Spec PyProof.Rows L2
theorem op_mulS {X:Cx}:OpR X (binaryOp .Mult) (fun x y H Q => ∃ (z:Str) (n:Int),x = .str z ∧ y = .int n ∧ MulOk z n ∧ Q (.str (Txt.mul z n)) H):=by
 intro pins s σ H x y v u Q I rx ry h
 obtain ⟨z,n,rfl,rfl,ok,q⟩:=h
 obtain ⟨t,rfl⟩:=rx
 obtain ⟨t',rfl⟩:=ry
 exact SB.mul ok fun t2 k => ⟨.str _,H,I.kept (t':=k) fun _ _ e => e,⟨_,rfl⟩,q⟩
def penD (c:Addr) (i r:Int):List (Key × V):=[(.inr "script",.ref c),(.inr "at",.int i),(.inr "left",.int r)]
def PenD (K:PySem.W.Frag) (H:Hp) (p c:Addr) (n:Int):Prop:=∃ (cs:List Int) (i r:Int),H p = some (.dK (penD c i r)) ∧ SqL K H c (cs.map V.int) ∧ cs.length ≤ 63 ∧ 0 ≤ i ∧ i ≤ n ∧ 0 ≤ r
def Away (K:PySem.W.Frag) (p c q:Addr):Prop:=p ≠ q ∧ (c ≠ q ∨ ∃ cs:List Int,cs.length ≤ 63 ∧ ∀ H,SqL K H c (cs.map V.int))
section
variable {K:PySem.W.Frag} {H H':Hp} {p c q:Addr} {n m:Int}
theorem PenD.le (h:PenD K H p c n) (l:n ≤ m):PenD K H p c m:=by
 obtain ⟨cs,i,r,g1,g2,g3,g4,g5,g6⟩:=h
 exact ⟨cs,i,r,g1,g2,g3,g4,by omega,g6⟩
theorem PenD.same (k:Kp [] H H') (h:PenD K H p c n):PenD K H' p c n:=by
 obtain ⟨cs,i,r,g1,g2,g3⟩:=h
 exact ⟨cs,i,r,k.same _ _ g1,Same.seq k.same g2,g3⟩
theorem PenD.new {o:HO} (h:PenD K H p c n) (hq:H q = none):PenD K (upd H q o) p c n:=h.same (Kp.new hq)
theorem PenD.put {o:HO} (h:PenD K H p c n) (a:Away K p c q):PenD K (upd H q o) p c n:=by
 obtain ⟨cs,i,r,g1,g2,g3,g4⟩:=h
 rcases a with ⟨a,b | ⟨ds,b1,b2⟩⟩
 ·refine ⟨cs,i,r,by rw [upd_ne a]; exact g1,?_,g3,g4⟩
  rcases g2 with (h | ⟨z,h⟩) | h
  ·exact .inl (.inl (by rw [upd_ne b]; exact h))
  ·exact .inl (.inr ⟨z,by rw [upd_ne b]; exact h⟩)
  ·exact .inr h
 ·exact ⟨ds,i,r,by rw [upd_ne a]; exact g1,b2 _,b1,g4⟩
end
end GB
namespace Tt
open PySem PySem.Spec PyProof.Rows L2 GB
theorem sum_leN (n:Nat):∀ l:List Str,(∀ x ∈ l,x.length ≤ n) → (l.map (·.length)).sum ≤ n * l.length
 | [],_ => by simp
 | x :: xs,h => by
  have:=sum_leN n xs fun y hy => h y (List.mem_cons_of_mem _ hy)
  have:=h x (List.mem_cons_self ..)
  simp only [List.map_cons,List.sum_cons,List.length_cons,Nat.mul_add,Nat.mul_one]; omega
theorem joinL_len (S:List Nat):∀ l:List (List Nat),(TL.joinL S l).length ≤ (l.map List.length).sum + l.length * S.length
 | [] => by simp [TL.joinL]
 | [p] => by simp [TL.joinL]
 | p :: q :: r => by
  have ih:=joinL_len S (q :: r)
  simp only [TL.joinL,List.length_append,List.map_cons,List.sum_cons,List.length_cons,Nat.add_mul,Nat.one_mul] at ih ⊢
  omega
theorem join_len (y:Str) (ts:List Str):(Txt.join y ts).length ≤ (ts.map (·.length)).sum + ts.length * y.length:=by
 have h:=joinL_len (TL.tl y) (ts.map TL.tl)
 rw [← TL.tl_join,← TL.join_eq,← TL.len_tl,← TL.len_tl,List.length_map,List.map_map] at h
 have e:(List.length ∘ TL.tl) = fun x:Str => x.length:=by funext x; exact (TL.len_tl x).symm
 rw [e] at h
 exact h
inductive Tm where
 | mk (kind name:Str) (parts:List Tm) (marked:Bool)
def wr (kind name:Str) (texts:List Str) (marked:Bool):Str :=
 if kind = "row" then (if marked then name ++ "'" else name)
 else if kind = "column" then texts.headD "" ++ "." ++ name
 else if kind = "place" then ("@" : Str) ++ texts.headD ""
 else if kind = "zero" then "0"
 else if kind = "function" then name ++ "(" ++ Txt.join ", " texts ++ ")"
 else name ++ "[" ++ Txt.join ", " texts ++ "]"
mutual
def Tm.text:Tm → Str
 | .mk kind name parts marked => wr kind name (Tm.texts parts) marked
def Tm.texts:List Tm → List Str
 | [] => []
 | t :: ts => t.text :: Tm.texts ts
end
theorem texts_map:∀ ts:List Tm,Tm.texts ts = ts.map Tm.text
 | [] => rfl
 | t :: ts => by rw [Tm.texts,texts_map ts]; rfl
def fieldsOf (kind name:Str) (l:Addr) (m:Bool) (text:Str):List (Str × V):=[("kind",.str kind),("name",.str name),("parts",.ref l),("marked",.bl m),("text",.str text)]
mutual
inductive TmAt (C:Addr) (H:Hp):V → Tm → Prop
 | mk {a dx l:Addr} {kind name:Str} {vs:List V} {ts:List Tm} {m:Bool}:H a = some (.ins C dx (fieldsOf kind name l m (Tm.text (.mk kind name ts m)))) → H l = some (.lst vs) → TmAll C H vs ts → TmAt C H (.ref a) (.mk kind name ts m)
inductive TmAll (C:Addr) (H:Hp):List V → List Tm → Prop
 | nil:TmAll C H [] []
 | cons {v:V} {vs:List V} {t:Tm} {ts:List Tm}:TmAt C H v t → TmAll C H vs ts → TmAll C H (v :: vs) (t :: ts)
end
inductive MdAt (K:PySem.W.Frag) (H:Hp):V → Tm → Prop
 | mk {a p:Addr} {kind name:Str} {vs:List V} {ts:List Tm} {m:Bool}:SqT K H a [.str kind,.str name,.ref p,.bl m] → SqT K H p vs → vs.length = ts.length → (∀ (i:Nat) (v:V) (t:Tm),vs[i]? = some v → ts[i]? = some t → MdAt K H v t) → MdAt K H (.ref a) (.mk kind name ts m)
section
variable {C:Addr} {H H':Hp}
theorem TmAt.isRef {v:V} {t:Tm} (h:TmAt C H v t):∃ a,v = .ref a:=by
 cases h with
 | mk _ _ _ => exact ⟨_,rfl⟩
theorem TmAll.refs:∀ {ts:List Tm} {vs:List V},TmAll C H vs ts → ∃ as:List Addr,vs = as.map V.ref
 | [],_,h => by cases h; exact ⟨[],rfl⟩
 | t :: ts,_,h => by
  cases h with
  | cons h1 h2 =>
   obtain ⟨a,rfl⟩:=h1.isRef
   obtain ⟨as,rfl⟩:=TmAll.refs h2
   exact ⟨a :: as,rfl⟩
theorem TmAll.length:∀ {ts:List Tm} {vs:List V},TmAll C H vs ts → vs.length = ts.length
 | [],_,h => by cases h; rfl
 | t :: ts,_,h => by
  cases h with
  | cons h1 h2 => simp [TmAll.length h2]
theorem TmAll.get:∀ {ts:List Tm} {vs:List V} {i:Nat} {v:V},TmAll C H vs ts → vs[i]? = some v → ∃ t,ts[i]? = some t ∧ TmAt C H v t
 | [],_,i,v,h,e => by cases h; simp at e
 | t :: ts,_,i,v,h,e => by
  cases h with
  | cons h1 h2 =>
   cases i with
   | zero => simp at e; subst e; exact ⟨t,rfl,h1⟩
   | succ i =>
    obtain ⟨t',e',h'⟩:=TmAll.get (i:=i) h2 (by simpa using e)
    exact ⟨t',by simpa using e',h'⟩
mutual
theorem TmAt.kq (k:Kq H H'):∀ {t:Tm} {v:V},TmAt C H v t → TmAt C H' v t
 | .mk kind name ts m,_,h => by
  cases h with
  | mk h1 h2 h3 =>
   obtain ⟨as,e⟩:=h3.refs
   exact .mk (k.keep _ _ rfl h1) (k.keep _ _ (by rw [e]; exact shape_refs as) h2) (TmAll.kq k h3)
theorem TmAll.kq (k:Kq H H'):∀ {ts:List Tm} {vs:List V},TmAll C H vs ts → TmAll C H' vs ts
 | [],_,h => by cases h; exact .nil
 | t :: ts,_,h => by
  cases h with
  | cons h1 h2 => exact .cons (TmAt.kq k h1) (TmAll.kq k h2)
end
theorem TmAt.same {t:Tm} {v:V} (k:Kp [] H H') (h:TmAt C H v t):TmAt C H' v t:=h.kq k.q
theorem TmAll.same {ts:List Tm} {vs:List V} (k:Kp [] H H') (h:TmAll C H vs ts):TmAll C H' vs ts:=h.kq k.q
end
section
variable {C:Addr} {G G':Hp}
mutual
theorem TmAt.mono (k:Same G G'):∀ {t:Tm} {v:V},TmAt C G v t → TmAt C G' v t
 | .mk kind name ts m,_,h => by
  cases h with
  | mk h1 h2 h3 => exact .mk (k _ _ h1) (k _ _ h2) (TmAll.mono k h3)
theorem TmAll.mono (k:Same G G'):∀ {ts:List Tm} {vs:List V},TmAll C G vs ts → TmAll C G' vs ts
 | [],_,h => by cases h; exact .nil
 | t :: ts,_,h => by
  cases h with
  | cons h1 h2 => exact .cons (TmAt.mono k h1) (TmAll.mono k h2)
end
end
def rmA (H:Hp) (x:Addr):Hp:=fun b => if b = x then none else H b
theorem rmA_at {H:Hp} {x b:Addr} {o:HO} (n:b ≠ x) (e:H b = some o):rmA H x b = some o:=by
 unfold rmA; rw [if_neg n]; exact e
mutual
theorem TmAt.rm {C:Addr} {H:Hp} {x dx:Addr} (hx:H x = some (.ins C dx [])):∀ {t:Tm} {v:V},TmAt C H v t → TmAt C (rmA H x) v t
 | .mk kind name ts m,_,h => by
  cases h with
  | mk h1 h2 h3 => exact .mk (rmA_at (fun z => by subst z; rw [hx] at h1; simp [fieldsOf] at h1) h1) (rmA_at (fun z => by subst z; rw [hx] at h2; simp at h2) h2) (TmAll.rm hx h3)
theorem TmAll.rm {C:Addr} {H:Hp} {x dx:Addr} (hx:H x = some (.ins C dx [])):∀ {ts:List Tm} {vs:List V},TmAll C H vs ts → TmAll C (rmA H x) vs ts
 | [],_,h => by cases h; exact .nil
 | t :: ts,_,h => by
  cases h with
  | cons h1 h2 => exact .cons (TmAt.rm hx h1) (TmAll.rm hx h2)
end
def fr (H H':Hp):Hp:=fun b => if H b = none then H' b else none
theorem wr_mark (kind name:Str) (ts:List Str) (m:Bool):wr kind name ts (decide (kind = "row") && m) = wr kind name ts m:=by
 unfold wr
 by_cases h:kind = "row"
 ·simp [h]
 ·simp [h]
theorem MdAt.kq {K:PySem.W.Frag} {H H':Hp} (k:Kq H H') {v:V} {t:Tm} (h:MdAt K H v t):MdAt K H' v t:=by
 induction h with
 | mk h1 h2 h3 _ ih => exact .mk (SqT.kq k h1) (SqT.kq k h2) h3 ih
theorem MdAt.same {K:PySem.W.Frag} {H H':Hp} (k:Kp [] H H') {v:V} {t:Tm} (h:MdAt K H v t):MdAt K H' v t:=h.kq k.q
end Tt
namespace GD
open PySem PySem.Spec PyProof.Rows L2 GB
section
inductive D where
 | non | bl (b:Bool) | int (i:Int) | str (x:Str) | ty (n:String) | cls (a:Addr)
 | tup (xs:List D) | lst (xs:List D) | kls (xs:List D) | dct (kvs:List (Key × D)) | obj (C:Addr) (fs:List (Str × D)) | ref (i:Nat)
mutual
inductive Rep (K:PySem.W.Frag) (F:Hp) (R:List Addr):V → D → Prop
 | non:Rep K F R .non .non
 | bl (b:Bool):Rep K F R (.bl b) (.bl b)
 | int (i:Int):Rep K F R (.int i) (.int i)
 | str (x:Str):Rep K F R (.str x) (.str x)
 | ty (n:String):Rep K F R (.ty n) (.ty n)
 | cls (a:Addr):Rep K F R (.ref a) (.cls a)
 | tup {a:Addr} {xs:List V} {ds:List D}:SqT K F a xs → RepAll K F R xs ds → Rep K F R (.ref a) (.tup ds)
 | lst {a:Addr} {xs:List V} {ds:List D}:F a = some (.lst xs) → RepAll K F R xs ds → Rep K F R (.ref a) (.lst ds)
 | kls {a:Addr} {xs:List V} {ds:List D}:SqL K F a xs → RepAll K F R xs ds → Rep K F R (.ref a) (.kls ds)
 | dct {a:Addr} {xs:List (Key × V)} {ds:List (Key × D)}:F a = some (.dK xs) → RepK K F R xs ds → Rep K F R (.ref a) (.dct ds)
 | obj {a C dx:Addr} {xs:List (Str × V)} {ds:List (Str × D)}:F a = some (.ins C dx xs) → RepF K F R xs ds → Rep K F R (.ref a) (.obj C ds)
 | ref {a:Addr} {i:Nat}:R[i]? = some a → Rep K F R (.ref a) (.ref i)
inductive RepAll (K:PySem.W.Frag) (F:Hp) (R:List Addr):List V → List D → Prop
 | nil:RepAll K F R [] []
 | cons {v:V} {d:D} {xs:List V} {ds:List D}:Rep K F R v d → RepAll K F R xs ds → RepAll K F R (v :: xs) (d :: ds)
inductive RepK (K:PySem.W.Frag) (F:Hp) (R:List Addr):List (Key × V) → List (Key × D) → Prop
 | nil:RepK K F R [] []
 | cons {k:Key} {v:V} {d:D} {xs:List (Key × V)} {ds:List (Key × D)}:Rep K F R v d → RepK K F R xs ds → RepK K F R ((k,v) :: xs) ((k,d) :: ds)
inductive RepF (K:PySem.W.Frag) (F:Hp) (R:List Addr):List (Str × V) → List (Str × D) → Prop
 | nil:RepF K F R [] []
 | cons {k:Str} {v:V} {d:D} {xs:List (Str × V)} {ds:List (Str × D)}:Rep K F R v d → RepF K F R xs ds → RepF K F R ((k,v) :: xs) ((k,d) :: ds)
end
def Sub (R R':List Addr):Prop:=∀ (i:Nat) (a:Addr),R[i]? = some a → R'[i]? = some a
theorem Sub.refl (R:List Addr):Sub R R:=fun _ _ h => h
theorem Sub.trans {R R1 R2:List Addr} (a:Sub R R1) (b:Sub R1 R2):Sub R R2:=fun i x h => b i x (a i x h)
theorem same_rd {F F':Hp} {a:Addr} {u:HO} (s:Same F F') (h:Rd F a u):Rd F' a u:=h.elim (fun e => .inl (s _ _ e)) fun ⟨o,e⟩ => .inr ⟨o,s _ _ e⟩
theorem same_l {K:PySem.W.Frag} {F F':Hp} {a:Addr} {xs:List V} (s:Same F F') (h:SqL K F a xs):SqL K F' a xs:=h.elim (fun e => .inl (same_rd s e)) .inr
theorem same_t {K:PySem.W.Frag} {F F':Hp} {a:Addr} {xs:List V} (s:Same F F') (h:SqT K F a xs):SqT K F' a xs:=h.elim (fun e => .inl (same_rd s e)) .inr
theorem same_a {K:PySem.W.Frag} {F F':Hp} {a:Addr} {xs:List V} (s:Same F F') (h:SqA K F a xs):SqA K F' a xs:=h.elim (fun e => .inl (same_l s e)) fun e => .inr (same_t s e)
section
variable {K:PySem.W.Frag} {F F':Hp} {R R':List Addr}
theorem Rep.mono (s:Same F F') (r:Sub R R') {v:V} {d:D} (h:Rep K F R v d):Rep K F' R' v d :=
 Rep.rec (motive_1:=fun v d _ => Rep K F' R' v d) (motive_2:=fun v d _ => RepAll K F' R' v d) (motive_3:=fun v d _ => RepK K F' R' v d) (motive_4:=fun v d _ => RepF K F' R' v d)
  .non .bl .int .str .ty .cls (fun h _ ih => .tup (same_t s h) ih) (fun h _ ih => .lst (s _ _ h) ih) (fun h _ ih => .kls (same_l s h) ih) (fun h _ ih => .dct (s _ _ h) ih) (fun h _ ih => .obj (s _ _ h) ih) (fun h => .ref (r _ _ h))
  .nil (fun _ _ i j => .cons i j) .nil (fun _ _ i j => .cons i j) .nil (fun _ _ i j => .cons i j) h
theorem RepAll.mono (s:Same F F') (r:Sub R R'):∀ {v:List V} {d:List D},RepAll K F R v d → RepAll K F' R' v d
 | _,_,.nil => .nil
 | _,_,.cons a b => .cons (a.mono s r) (RepAll.mono s r b)
theorem RepK.mono (s:Same F F') (r:Sub R R'):∀ {v:List (Key × V)} {d:List (Key × D)},RepK K F R v d → RepK K F' R' v d
 | _,_,.nil => .nil
 | _,_,.cons a b => .cons (a.mono s r) (RepK.mono s r b)
theorem RepF.mono (s:Same F F') (r:Sub R R'):∀ {v:List (Str × V)} {d:List (Str × D)},RepF K F R v d → RepF K F' R' v d
 | _,_,.nil => .nil
 | _,_,.cons a b => .cons (a.mono s r) (RepF.mono s r b)
theorem RepAll.length:∀ {v:List V} {d:List D},RepAll K F R v d → v.length = d.length
 | _,_,.nil => rfl
 | _,_,.cons _ b => by simp [RepAll.length b]
theorem RepAll.get:∀ {v:List V} {ds:List D} {i:Nat} {d:D},RepAll K F R v ds → ds[i]? = some d → ∃ x,v[i]? = some x ∧ Rep K F R x d
 | _,_,_,_,.nil,e => by simp at e
 | _,_,0,_,.cons a _,e => by simp at e; subst e; exact ⟨_,rfl,a⟩
 | _,_,i + 1,_,.cons _ b,e => by
  obtain ⟨x,h1,h2⟩:=RepAll.get (i:=i) b (by simpa using e)
  exact ⟨x,by simpa using h1,h2⟩
theorem RepAll.getV:∀ {v:List V} {ds:List D} {i:Nat} {x:V},RepAll K F R v ds → v[i]? = some x → ∃ d,ds[i]? = some d ∧ Rep K F R x d
 | _,_,_,_,.nil,e => by simp at e
 | _,_,0,_,.cons a _,e => by simp at e; subst e; exact ⟨_,rfl,a⟩
 | _,_,i + 1,_,.cons _ b,e => by
  obtain ⟨x,h1,h2⟩:=RepAll.getV (i:=i) b (by simpa using e)
  exact ⟨x,by simpa using h1,h2⟩
theorem RepAll.append:∀ {v v':List V} {d d':List D},RepAll K F R v d → RepAll K F R v' d' → RepAll K F R (v ++ v') (d ++ d')
 | _,_,_,_,.nil,s => s
 | _,_,_,_,.cons a b,s => .cons a (RepAll.append b s)
theorem RepAll.take:∀ {v:List V} {d:List D} (n:Nat),RepAll K F R v d → RepAll K F R (v.take n) (d.take n)
 | _,_,0,_ => .nil
 | _,_,_ + 1,.nil => .nil
 | _,_,n + 1,.cons a b => .cons a (RepAll.take n b)
theorem RepAll.drop:∀ {v:List V} {d:List D} (n:Nat),RepAll K F R v d → RepAll K F R (v.drop n) (d.drop n)
 | _,_,0,r => r
 | _,_,_ + 1,.nil => .nil
 | _,_,n + 1,.cons _ b => RepAll.drop n b
theorem RepAll.set {x:V} {e:D} (r:Rep K F R x e):∀ {v:List V} {d:List D} (i:Nat),RepAll K F R v d → RepAll K F R (v.set i x) (d.set i e)
 | _,_,_,.nil => .nil
 | _,_,0,.cons _ b => .cons r b
 | _,_,i + 1,.cons a b => .cons a (RepAll.set r i b)
theorem RepAll.eraseIdx:∀ {v:List V} {d:List D} (i:Nat),RepAll K F R v d → RepAll K F R (v.eraseIdx i) (d.eraseIdx i)
 | _,_,_,.nil => .nil
 | _,_,0,.cons _ b => b
 | _,_,i + 1,.cons a b => .cons a (RepAll.eraseIdx i b)
theorem RepF.look:∀ {xs:List (Str × V)} {ds:List (Str × D)} {f:Str} {d:D},RepF K F R xs ds → ds.lookup f = some d → ∃ v,xs.lookup f = some v ∧ Rep K F R v d
 | _,_,_,_,.nil,e => by simp at e
 | _,_,f,d,.cons (k:=k) a b,e => by
  simp only [List.lookup_cons] at e ⊢
  cases h:f == k with
  | true => rw [h] at e; obtain rfl:=Option.some.inj e; exact ⟨_,rfl,a⟩
  | false => rw [h] at e; exact RepF.look b e
theorem RepF.lookN:∀ {xs:List (Str × V)} {ds:List (Str × D)} {f:Str},RepF K F R xs ds → ds.lookup f = none → xs.lookup f = none
 | _,_,_,.nil,_ => rfl
 | _,_,f,.cons (k:=k) a b,e => by
  simp only [List.lookup_cons] at e ⊢
  cases h:f == k with
  | true => rw [h] at e; cases e
  | false => rw [h] at e; exact RepF.lookN b e
end
inductive Cell where
 | lst (ds:List D) | dct (kvs:List (Key × D)) | ins (C:Addr) (fs:List (Str × D))
inductive Sl where
 | no | val (d:D) | own (ds:List D) | bor (ds:List D) | slf (C:Addr) (fs:List (Str × D))
abbrev Sto:=Nat → Option Cell
structure DS where
 vs:List Sl
 S:Sto
structure En where
 F0:Hp
 R0:List Addr
 H0:Hp
 X0:Addr → Prop
 T0:Addr → Prop
inductive Ow where
 | slot (i:Nat) | cell (i:Nat) | tmp
abbrev Own:=Addr → Option Ow
def Bor (K:PySem.W.Frag) (W:Own) (H:Hp) (a:Addr) (xs:List V):Prop:=(W a = none ∧ (Rd H a (.lst xs) ∨ Rd H a (.tup xs))) ∨ SqA K (fun _ => none) a xs
theorem Bor.a {K:PySem.W.Frag} {W:Own} {H:Hp} {a:Addr} {xs:List V} (h:Bor K W H a xs):SqA K H a xs:=by
 rcases h with ⟨_,h | h⟩ | h
 ·exact .inl (.inl h)
 ·exact .inr (.inl h)
 ·exact same_a (fun _ _ e => by cases e) h
theorem rd_imp {H H':Hp} {a:Addr} {u:HO} (k:∀ o,H a = some o → H' a = some o) (h:Rd H a u):Rd H' a u:=h.elim (fun e => .inl (k _ e)) fun ⟨o,e⟩ => .inr ⟨o,k _ e⟩
theorem Bor.mono {K:PySem.W.Frag} {W W':Own} {H H':Hp} {a:Addr} {xs:List V} (k:∀ o,W a = none → H a = some o → H' a = some o) (w:∀ o,H a = some o → W a = none → W' a = none) (h:Bor K W H a xs):Bor K W' H' a xs:=by
 rcases h with ⟨h0,h⟩ | h
 ·have ex:∃ o,H a = some o:=by
   rcases h with (e | ⟨o,e⟩) | (e | ⟨o,e⟩) <;> exact ⟨_,e⟩
  obtain ⟨o,e⟩:=ex
  exact .inl ⟨w o e h0,h.imp (rd_imp fun o => k o h0) (rd_imp fun o => k o h0)⟩
 ·exact .inr h
def CellAt (K:PySem.W.Frag) (F:Hp) (R:List Addr) (H:Hp) (a:Addr):Cell → Prop
 | .lst ds => ∃ xs,H a = some (.lst xs) ∧ RepAll K F R xs ds
 | .dct ds => ∃ xs,H a = some (.dK xs) ∧ RepK K F R xs ds
 | .ins C ds => ∃ dx xs,H a = some (.ins C dx xs) ∧ RepF K F R xs ds
def SlotAt (K:PySem.W.Frag) (F:Hp) (R:List Addr) (W:Own) (H:Hp) (σ:L2.St) (i:Nat):Sl → Prop
 | .no => True
 | .val d => ∃ v,σ[i]? = some (some v) ∧ Rep K F R v d
 | .own ds => ∃ a xs,σ[i]? = some (some (.ref a)) ∧ H a = some (.lst xs) ∧ W a = some (.slot i) ∧ RepAll K F R xs ds
 | .bor ds => ∃ a xs,σ[i]? = some (some (.ref a)) ∧ Bor K W H a xs ∧ RepAll K F R xs ds
 | .slf C ds => ∃ a dx xs,σ[i]? = some (some (.ref a)) ∧ H a = some (.ins C dx xs) ∧ W a = some (.slot i) ∧ RepF K F R xs ds
structure Rel (K:PySem.W.Frag) (en:En) (F:Hp) (R:List Addr) (W:Own) (δ:DS) (σ:L2.St) (H:Hp):Prop where
 f0:Same en.F0 F
 r0:Sub en.R0 R
 kp:∀ a o,en.H0 a = some o → ¬ en.X0 a → H a = some o
 dm:∀ a,H a = none → en.H0 a = none
 fh:Same F H
 fw:∀ a o,F a = some o → W a = none
 fn:∀ a o,F a = some o → (∃ u,en.F0 a = some u) ∨ en.H0 a = none ∨ en.X0 a
 wn:∀ a w,W a = some w → (∃ o,H a = some o) ∧ (w = .tmp ∨ en.H0 a = none ∨ en.X0 a)
 ce:∀ (i:Nat) (c:Cell),δ.S i = some c → ∃ a,R[i]? = some a ∧ W a = some (.cell i) ∧ CellAt K F R H a c
 sl:∀ (i:Nat) (s:Sl),δ.vs[i]? = some s → SlotAt K F R W H σ i s
 ln:δ.vs.length = σ.length
 tp:∀ a,en.T0 a → W a = some .tmp
 tx:∀ a,en.T0 a → (∃ o,en.H0 a = some o) ∧ ¬ en.X0 a
theorem CellAt.mono {K:PySem.W.Frag} {F F':Hp} {R R':List Addr} {H H':Hp} {a:Addr} (s:Same F F') (r:Sub R R') (k:∀ o,H a = some o → H' a = some o):∀ {c:Cell},CellAt K F R H a c → CellAt K F' R' H' a c
 | .lst _,⟨xs,e,q⟩ => ⟨xs,k _ e,q.mono s r⟩
 | .dct _,⟨xs,e,q⟩ => ⟨xs,k _ e,q.mono s r⟩
 | .ins _ _,⟨dx,xs,e,q⟩ => ⟨dx,xs,k _ e,q.mono s r⟩
theorem SlotAt.mono {K:PySem.W.Frag} {F F':Hp} {R R':List Addr} {W W':Own} {H H':Hp} {σ σ':L2.St} {i:Nat} (s:Same F F') (r:Sub R R') (kn:∀ a o,W a = none → H a = some o → H' a = some o) (kw:∀ a o,W a = some (.slot i) → H a = some o → H' a = some o)
  (wn:∀ a o,H a = some o → W a = none → W' a = none) (ww:∀ a,W a = some (.slot i) → W' a = some (.slot i)) (e:∀ v,σ[i]? = some (some v) → σ'[i]? = some (some v)):∀ {x:Sl},SlotAt K F R W H σ i x → SlotAt K F' R' W' H' σ' i x
 | .no,_ => trivial
 | .val _,⟨v,a,b⟩ => ⟨v,e _ a,b.mono s r⟩
 | .own _,⟨a,xs,h1,h2,h3,h4⟩ => ⟨a,xs,e _ h1,kw _ _ h3 h2,ww _ h3,h4.mono s r⟩
 | .slf _ _,⟨a,dx,xs,h1,h2,h3,h4⟩ => ⟨a,dx,xs,e _ h1,kw _ _ h3 h2,ww _ h3,h4.mono s r⟩
 | .bor _,⟨a,xs,h1,h2,h4⟩ => ⟨a,xs,e _ h1,h2.mono (fun o z q => kn a o z q) (fun o q z => wn a o q z),h4.mono s r⟩
theorem Same.new {F:Hp} {p:Addr} {o:HO} (h:F p = none):Same F (upd F p o):=fun a u e => by rw [upd_ne (ne_of_none e h)]; exact e
def setW (W:Own) (p:Addr) (w:Option Ow):Own:=fun a => if a = p then w else W a
theorem setW_same {W:Own} {p:Addr} {w:Option Ow}:setW W p w p = w:=if_pos rfl
theorem setW_ne {W:Own} {p a:Addr} {w:Option Ow} (h:a ≠ p):setW W p w a = W a:=if_neg h
theorem sT {F F1 F2:Hp} (a:Same F F1) (b:Same F1 F2):Same F F2:=fun x o e => b x o (a x o e)
section
variable {K:PySem.W.Frag} {en:En} {F F':Hp} {R R':List Addr} {W W':Own} {δ δ':DS} {σ σ':L2.St} {H H':Hp}
def base (F:Hp) (R:List Addr) (W:Own) (H:Hp):En:=⟨F,R,H,fun a => ∃ w,W a = some w ∧ w ≠ .tmp,fun a => W a = some .tmp⟩
theorem Rel.rebase (h:Rel K en F R W δ σ H):Rel K (base F R W H) F R W δ σ H where
 f0:=fun _ _ e => e
 r0:=fun _ _ e => e
 kp:=fun _ _ e _ => e
 dm:=fun _ e => e
 fh:=h.fh
 fw:=h.fw
 fn:=fun _ o e => .inl ⟨o,e⟩
 wn:=fun a w e => ⟨(h.wn a w e).1,by
  by_cases z:w = .tmp
  ·exact .inl z
  ·exact .inr (.inr ⟨w,e,z⟩)⟩
 ce:=h.ce
 sl:=h.sl
 ln:=h.ln
 tp:=fun a e => e
 tx:=fun a e => ⟨(h.wn a _ e).1,fun ⟨w,z,y⟩ => y (Option.some.inj (z.symm.trans e))⟩
theorem Rel.nt {a:Addr} (h:Rel K en F R W δ σ H) (e:en.H0 a = none ∨ en.X0 a):¬ en.T0 a:=fun z => by
 obtain ⟨⟨o,q⟩,y⟩:=h.tx a z
 exact e.elim (fun x => by rw [q] at x; cases x) y
theorem Rel.may {a:Addr} {w:Ow} (h:Rel K en F R W δ σ H) (e:W a = some w) (z:w ≠ .tmp):en.H0 a = none ∨ en.X0 a:=(h.wn a w e).2.elim (fun q => absurd q z) id
theorem Rel.trans {δ0:DS} {σ0:L2.St} (h:Rel K en F R W δ0 σ0 H) (g:Rel K (base F R W H) F' R' W' δ σ H'):Rel K en F' R' W' δ σ H' where
 f0:=sT h.f0 g.f0
 r0:=h.r0.trans g.r0
 kp:=fun a o e n => g.kp a o (h.kp a o e n) fun ⟨w,z,y⟩ => (h.may z y).elim (fun q => by rw [e] at q; cases q) n
 dm:=fun a e => h.dm a (g.dm a e)
 fh:=g.fh
 fw:=g.fw
 fn:=fun a o e => (g.fn a o e).elim (fun ⟨u,z⟩ => h.fn a u z) fun z => z.elim (fun q => .inr (.inl (h.dm a q))) fun ⟨w,q,y⟩ => .inr (h.may q y)
 wn:=fun a w e => ⟨(g.wn a w e).1,(g.wn a w e).2.elim .inl fun z => z.elim (fun q => .inr (.inl (h.dm a q))) fun ⟨w',q,y⟩ => .inr (h.may q y)⟩
 ce:=g.ce
 sl:=g.sl
 ln:=g.ln
 tp:=fun a e => g.tp a (h.tp a e)
 tx:=h.tx
theorem Rel.new {p:Addr} {o:HO} (h:Rel K en F R W δ σ H) (hp:H p = none):Rel K en F R W δ σ (upd H p o):=by
 have k:∀ a u,H a = some u → upd H p o a = some u:=fun a u e => by rw [upd_ne (ne_of_none e hp)]; exact e
 refine ⟨h.f0,h.r0,fun a u e n => k _ _ (h.kp a u e n),?_,fun a u e => k _ _ (h.fh a u e),h.fw,h.fn,?_,?_,?_,h.ln,h.tp,h.tx⟩
 ·intro a e
  by_cases z:a = p
  ·subst z; exact h.dm _ hp
  ·rw [upd_ne z] at e; exact h.dm a e
 ·intro a w e
  obtain ⟨⟨u,q⟩,r⟩:=h.wn a w e
  exact ⟨⟨u,k _ _ q⟩,r⟩
 ·intro i c e
  obtain ⟨a,h1,h2,h3⟩:=h.ce i c e
  exact ⟨a,h1,h2,h3.mono (fun _ _ e => e) (fun _ _ e => e) fun u q => k _ _ q⟩
 ·intro i s e
  exact (h.sl i s e).mono (fun _ _ e => e) (fun _ _ e => e) (fun a u _ q => k _ _ q) (fun a u _ q => k _ _ q) (fun _ _ _ z => z) (fun _ z => z) (fun _ z => z)
theorem Rel.fNone {p:Addr} (h:Rel K en F R W δ σ H) (hp:H p = none):F p = none:=by
 cases q:F p with
 | none => rfl
 | some u => have:=h.fh _ _ q; rw [hp] at this; cases this
theorem Rel.wNone {p:Addr} (h:Rel K en F R W δ σ H) (hp:H p = none):W p = none:=by
 cases q:W p with
 | none => rfl
 | some w => obtain ⟨⟨u,e⟩,_⟩:=h.wn _ _ q; rw [hp] at e; cases e
theorem Rel.reown {p:Addr} {w':Option Ow} {δ':DS} (h:Rel K en F R W δ σ H) (f:F p = none) (hp:∃ o,H p = some o) (hn:w' = some .tmp ∨ en.H0 p = none ∨ en.X0 p) (hv:δ'.vs.length = δ.vs.length)
  (hs:∀ (i:Nat) (s:Sl),δ'.vs[i]? = some s → (W p ≠ some (.slot i) ∧ δ.vs[i]? = some s ∧ ((∃ w,W p = some w) ∨ w' = none)) ∨ SlotAt K F R (setW W p w') H σ i s) (hc:∀ (i:Nat) (c:Cell),δ'.S i = some c → (W p ≠ some (.cell i) ∧ δ.S i = some c) ∨ (w' = some (.cell i) ∧ R[i]? = some p ∧ CellAt K F R H p c)) :
  Rel K en F R (setW W p w') δ' σ H:=by
 refine ⟨h.f0,h.r0,h.kp,h.dm,h.fh,?_,h.fn,?_,?_,?_,hv.trans h.ln,?_,h.tx⟩
 ·intro b u e
  rw [setW_ne (ne_of_none e f)]; exact h.fw b u e
 ·intro b x e
  by_cases z:b = p
  ·subst z
   rw [setW_same] at e
   refine ⟨hp,?_⟩
   rcases hn with q | q
   ·rw [q] at e; exact .inl (Option.some.inj e).symm
   ·exact .inr q
  ·rw [setW_ne z] at e; exact h.wn b x e
 ·intro i c e
  rcases hc i c e with ⟨n,q⟩ | ⟨q,r1,r2⟩
  ·obtain ⟨b,h1,h2,h3⟩:=h.ce i c q
   exact ⟨b,h1,by rw [setW_ne (fun z => n (by rw [← z]; exact h2))]; exact h2,h3⟩
  ·exact ⟨p,r1,by rw [setW_same]; exact q,r2⟩
 ·intro i s e
  rcases hs i s e with ⟨n,q,hw⟩ | q
  ·refine (h.sl i s q).mono (fun _ _ e => e) (fun _ _ e => e) (fun _ _ _ y => y) (fun _ _ _ y => y) (fun b _ _ z => ?_) (fun b z => ?_) (fun _ z => z)
   ·by_cases y:b = p
    ·subst y
     rw [setW_same]
     rcases hw with ⟨w,hw⟩ | hw
     ·rw [hw] at z; cases z
     ·exact hw
    ·rw [setW_ne y]; exact z
   ·rw [setW_ne (fun y => n (by rw [← y]; exact z))]; exact z
  ·exact q
 ·intro b e
  by_cases z:b = p
  ·subst z
   rw [setW_same]
   exact hn.elim id fun q => absurd e (h.nt q)
  ·rw [setW_ne z]; exact h.tp b e
theorem Rel.newT {p:Addr} {o:HO} (h:Rel K en F R W δ σ H) (hp:H p = none):Rel K en F R (setW W p (some .tmp)) δ σ (upd H p o):=by
 have k:∀ a u,H a = some u → upd H p o a = some u:=fun a u e => by rw [upd_ne (ne_of_none e hp)]; exact e
 refine (h.new (o:=o) hp).reown (δ':=δ) (h.fNone hp) ⟨o,upd_same⟩ (.inl rfl) rfl (fun i s e => .inr ?_) (fun i c e => .inl ⟨by rw [h.wNone hp]; simp,e⟩)
 refine (h.sl i s e).mono (fun _ _ e => e) (fun _ _ e => e) (fun a u _ q => k _ _ q) (fun a u _ q => k _ _ q) (fun a u q z => ?_) (fun a z => ?_) (fun _ z => z)
 ·rw [setW_ne (ne_of_none q hp)]; exact z
 ·rw [setW_ne (fun y => by subst y; rw [h.wNone hp] at z; cases z)]; exact z
theorem Rel.frz {p:Addr} {o:HO} (h:Rel K en F R W δ σ H) (hp:H p = some o) (hw:W p = none) (hn:en.H0 p = none ∨ en.X0 p) (f:F p = none):Rel K en (upd F p o) R W δ σ H:=by
 have s:Same F (upd F p o):=Same.new f
 refine ⟨sT h.f0 s,h.r0,h.kp,h.dm,?_,?_,?_,h.wn,?_,?_,h.ln,h.tp,h.tx⟩
 ·intro a u e
  by_cases z:a = p
  ·subst z; rw [upd_same] at e; rw [← e]; exact hp
  ·rw [upd_ne z] at e; exact h.fh a u e
 ·intro a u e
  by_cases z:a = p
  ·subst z; exact hw
  ·rw [upd_ne z] at e; exact h.fw a u e
 ·intro a u e
  by_cases z:a = p
  ·subst z; exact .inr hn
  ·rw [upd_ne z] at e; exact h.fn a u e
 ·intro i c e
  obtain ⟨a,h1,h2,h3⟩:=h.ce i c e
  exact ⟨a,h1,h2,h3.mono s (fun _ _ e => e) fun _ q => q⟩
 ·intro i x e
  exact (h.sl i x e).mono s (fun _ _ e => e) (fun _ _ _ q => q) (fun _ _ _ q => q) (fun _ _ _ z => z) (fun _ z => z) (fun _ z => z)
theorem Rel.frzT {p:Addr} {o:HO} (h:Rel K en F R W δ σ H) (hp:H p = some o) (hw:W p = some .tmp) (hn:en.H0 p = none ∨ en.X0 p) (f:F p = none):Rel K en (upd F p o) R (setW W p none) δ σ H :=
 (h.reown (δ':=δ) f ⟨o,hp⟩ (.inr hn) rfl (fun i s e => .inl ⟨by rw [hw]; simp,e,.inr rfl⟩) (fun i c e => .inl ⟨by rw [hw]; simp,e⟩)).frz hp setW_same hn f
theorem Rel.newF {p:Addr} {o:HO} (h:Rel K en F R W δ σ H) (hp:H p = none):Rel K en (upd F p o) R W δ σ (upd H p o) ∧ Same F (upd F p o) :=
 ⟨(h.new (o:=o) hp).frz upd_same (h.wNone hp) (.inl (h.dm _ hp)) (h.fNone hp),Same.new (h.fNone hp)⟩
theorem Rel.slots {vs:List Sl} (h:Rel K en F R W δ σ H) (l:vs.length = σ'.length) (k:∀ (i:Nat) (s:Sl),vs[i]? = some s → SlotAt K F R W H σ' i s):Rel K en F R W ⟨vs,δ.S⟩ σ' H :=
 ⟨h.f0,h.r0,h.kp,h.dm,h.fh,h.fw,h.fn,h.wn,h.ce,k,l,h.tp,h.tx⟩
theorem Rel.noslots (h:Rel K en F R W δ σ H):Rel K en F R W ⟨[],δ.S⟩ [] H:=h.slots rfl (fun i s e => by simp at e)
theorem SlotAt.at {i:Nat} {s:Sl} (e:∀ v,σ[i]? = some (some v) → σ'[i]? = some (some v)) (h:SlotAt K F R W H σ i s):SlotAt K F R W H σ' i s :=
 h.mono (fun _ _ e => e) (fun _ _ e => e) (fun _ _ _ q => q) (fun _ _ _ q => q) (fun _ _ _ z => z) (fun _ z => z) e
theorem Rel.set {i:Nat} {s:Sl} {v:V} (h:Rel K en F R W δ σ H) (k:SlotAt K F R W H (σ.set i (some v)) i s):Rel K en F R W ⟨δ.vs.set i s,δ.S⟩ (σ.set i (some v)) H:=by
 refine h.slots (by simp [h.ln]) fun j x e => ?_
 by_cases z:i = j
 ·subst z
  rw [List.getElem?_set] at e
  split at e
  ·split at e
   ·obtain rfl:=Option.some.inj e; exact k
   ·cases e
  ·rename_i n; exact absurd rfl n
 ·rw [List.getElem?_set_ne z] at e
  refine (h.sl j x e).at fun v q => ?_
  rw [List.getElem?_set_ne z]; exact q
theorem Rel.setV {i:Nat} {d:D} {v:V} (h:Rel K en F R W δ σ H) (r:Rep K F R v d) (hi:i < σ.length):Rel K en F R W ⟨δ.vs.set i (.val d),δ.S⟩ (σ.set i (some v)) H :=
 h.set ⟨v,by rw [List.getElem?_set_self hi],r⟩
theorem Rel.own {i:Nat} {p:Addr} {xs:List V} {ds:List D} (h:Rel K en F R W δ σ H) (hp:H p = some (.lst xs)) (hw:W p = some .tmp) (hn:en.H0 p = none ∨ en.X0 p) (f:F p = none) (q:RepAll K F R xs ds) (hi:i < σ.length) :
  Rel K en F R (setW W p (some (.slot i))) ⟨δ.vs.set i (.own ds),δ.S⟩ (σ.set i (some (.ref p))) H:=by
 have h2:Rel K en F R (setW W p (some (.slot i))) δ σ H:=h.reown (δ':=δ) f ⟨_,hp⟩ (.inr hn) rfl (fun i s e => .inl ⟨by rw [hw]; simp,e,.inl ⟨_,hw⟩⟩) (fun i c e => .inl ⟨by rw [hw]; simp,e⟩)
 exact h2.set ⟨p,xs,by rw [List.getElem?_set_self hi],hp,setW_same,q⟩
theorem Rel.put {a:Addr} {w:Ow} {o:HO} {δ':DS} (h:Rel K en F R W δ σ H) (hw:W a = some w) (hn:en.H0 a = none ∨ en.X0 a) (hv:δ'.vs.length = δ.vs.length)
  (hs:∀ (i:Nat) (s:Sl),δ'.vs[i]? = some s → (w ≠ .slot i ∧ δ.vs[i]? = some s) ∨ SlotAt K F R W (upd H a o) σ i s) (hc:∀ (i:Nat) (c:Cell),δ'.S i = some c → (w ≠ .cell i ∧ δ.S i = some c) ∨ (w = .cell i ∧ R[i]? = some a ∧ CellAt K F R (upd H a o) a c)) :
  Rel K en F R W δ' σ (upd H a o):=by
 have nf:∀ b u,F b = some u → b ≠ a:=fun b u e z => by subst z; rw [h.fw _ _ e] at hw; cases hw
 refine ⟨h.f0,h.r0,?_,?_,?_,h.fw,h.fn,?_,?_,?_,hv.trans h.ln,h.tp,h.tx⟩
 ·intro b u e n
  rw [upd_ne (fun z => by subst z; exact hn.elim (fun q => by rw [e] at q; cases q) n)]
  exact h.kp b u e n
 ·intro b e
  by_cases z:b = a
  ·subst z; rw [upd_same] at e; cases e
  ·rw [upd_ne z] at e; exact h.dm b e
 ·intro b u e
  rw [upd_ne (nf b u e)]; exact h.fh b u e
 ·intro b x e
  obtain ⟨⟨u,q⟩,r⟩:=h.wn b x e
  refine ⟨?_,r⟩
  by_cases z:b = a
  ·subst z; exact ⟨_,upd_same⟩
  ·exact ⟨u,by rw [upd_ne z]; exact q⟩
 ·intro i c e
  rcases hc i c e with ⟨n,q⟩ | ⟨rfl,r1,r2⟩
  ·obtain ⟨b,h1,h2,h3⟩:=h.ce i c q
   refine ⟨b,h1,h2,h3.mono (fun _ _ e => e) (fun _ _ e => e) fun u z => ?_⟩
   rw [upd_ne (fun y => by subst y; rw [hw] at h2; exact n (Option.some.inj h2))]; exact z
  ·exact ⟨a,r1,hw,r2⟩
 ·intro i s e
  rcases hs i s e with ⟨n,q⟩ | q
  ·refine (h.sl i s q).mono (fun _ _ e => e) (fun _ _ e => e) (fun b u z y => ?_) (fun b u z y => ?_) (fun _ _ _ z => z) (fun _ z => z) (fun _ z => z)
   ·rw [upd_ne (fun x => by subst x; rw [hw] at z; cases z)]; exact y
   ·rw [upd_ne (fun x => by subst x; rw [hw] at z; exact n (Option.some.inj z))]; exact y
  ·exact q
end
end
section
abbrev DK:=D → DS → Prop
abbrev DG:=DS → DK → Prop
abbrev DB:=DS → (Bool → DS → Prop) → Prop
abbrev DN:=DS → (List D → DS → Prop) → Prop
inductive Ar where
 | val (d:D) | slot (k:Nat) | bv (d:D)
abbrev DAr:=DS → (List Ar → DS → Prop) → Prop
def ArAt (K:PySem.W.Frag) (F:Hp) (R:List Addr) (σ:L2.St):V → Ar → Prop
 | v,.val d => Rep K F R v d
 | v,.slot k => σ[k]? = some (some v)
 | v,.bv d => Rep K F R v d
inductive ArAll (K:PySem.W.Frag) (F:Hp) (R:List Addr) (σ:L2.St):List V → List Ar → Prop
 | nil:ArAll K F R σ [] []
 | cons {v:V} {a:Ar} {vs:List V} {as:List Ar}:ArAt K F R σ v a → ArAll K F R σ vs as → ArAll K F R σ (v :: vs) (a :: as)
theorem ArAt.mono {K:PySem.W.Frag} {F F':Hp} {R R':List Addr} {σ:L2.St} (s:Same F F') (r:Sub R R') {v:V}:∀ {a:Ar},ArAt K F R σ v a → ArAt K F' R' σ v a
 | .val _,h => Rep.mono s r h
 | .slot _,h => h
 | .bv _,h => Rep.mono s r h
theorem ArAll.mono {K:PySem.W.Frag} {F F':Hp} {R R':List Addr} {σ:L2.St} (s:Same F F') (r:Sub R R'):∀ {v:List V} {a:List Ar},ArAll K F R σ v a → ArAll K F' R' σ v a
 | _,_,.nil => .nil
 | _,_,.cons a b => .cons (a.mono s r) (ArAll.mono s r b)
def valsOf:List Ar → Option (List D)
 | [] => some []
 | .val d :: r => (valsOf r).map (d :: ·)
 | .slot _ :: _ => none
 | .bv _ :: _ => none
theorem ArAll.vals {K:PySem.W.Frag} {F:Hp} {R:List Addr} {σ:L2.St}:∀ {v:List V} {a:List Ar} {ds:List D},ArAll K F R σ v a → valsOf a = some ds → RepAll K F R v ds
 | _,_,_,.nil,e => by simp [valsOf] at e; subst e; exact .nil
 | _,.val d :: as,ds,.cons h t,e => by
  simp only [valsOf,Option.map_eq_some_iff] at e
  obtain ⟨r,e,rfl⟩:=e
  exact .cons h (t.vals e)
 | _,.slot _ :: _,_,.cons _ _,e => by simp [valsOf] at e
 | _,.bv _ :: _,_,.cons _ _,e => by simp [valsOf] at e
def tD (K:PySem.W.Frag) (G:DG):TE:=fun σ H Q => ∃ en F R W δ Kt,Rel K en F R W δ σ H ∧ G δ Kt ∧ ∀ d δ' F' R' W' H' v,Kt d δ' → Same F F' → Sub R R' → Rel K en F' R' W' δ' σ H' → Rep K F' R' v d → Q v H'
def tB (K:PySem.W.Frag) (G:DB):TT:=fun σ H Q => ∃ en F R W δ Kt,Rel K en F R W δ σ H ∧ G δ Kt ∧ ∀ b δ' F' R' W' H',Kt b δ' → Same F F' → Sub R R' → Rel K en F' R' W' δ' σ H' → Q b H'
def tSq (K:PySem.W.Frag) (G:DN):TE:=fun σ H Q => ∃ en F R W δ Kt,Rel K en F R W δ σ H ∧ G δ Kt ∧ ∀ ds δ' F' R' W' H' a xs,Kt ds δ' → Same F F' → Sub R R' → Rel K en F' R' W' δ' σ H' → SqA K H' a xs → RepAll K F' R' xs ds → Q (.ref a) H'
def tNw (K:PySem.W.Frag) (G:DN):TE:=fun σ H Q => ∃ en F R W δ Kt,Rel K en F R W δ σ H ∧ G δ Kt ∧ ∀ ds δ' F' R' W' H' p xs,Kt ds δ' → Same F F' → Sub R R' → Rel K en F' R' W' δ' σ H' → H' p = some (.lst xs) → F' p = none → W' p = some .tmp → en.H0 p = none → RepAll K F' R' xs ds → Q (.ref p) H'
def tAr (K:PySem.W.Frag) (G:DAr):TA:=fun σ H Q => ∃ en F R W δ Kt,Rel K en F R W δ σ H ∧ G δ Kt ∧ ∀ as δ' F' R' W' H' vs,Kt as δ' → Same F F' → Sub R R' → Rel K en F' R' W' δ' σ H' → ArAll K F' R' σ vs as → Q vs H'
def DE (X:Cx) (e:Expr) (G:DG):Prop:=PE X e (tD X.K G)
def DT (X:Cx) (e:Expr) (G:DB):Prop:=PT X e (tB X.K G)
def DTW (X:Cx) (e:Expr) (G:DB):Prop:=PW X e (tB X.K G)
def SE (X:Cx) (e:Expr) (G:DN):Prop:=PE X e (tSq X.K G)
def NE (X:Cx) (e:Expr) (G:DN):Prop:=PE X e (tNw X.K G)
def DA (X:Cx) (es:List Expr) (G:DAr):Prop:=PA X es (tAr X.K G)
theorem pe_of {X:Cx} {e:Expr} {t t':TE} (h:PE X e t) (m:∀ σ H Q,t' σ H Q → t σ H Q):PE X e t':=⟨fun pins s σ H Q I q => h.run pins s σ H Q I (m σ H Q q)⟩
theorem pt_of {X:Cx} {e:Expr} {t t':TT} (h:PT X e t) (m:∀ σ H Q,t' σ H Q → t σ H Q):PT X e t':=⟨fun pins s σ H Q I q => h.run pins s σ H Q I (m σ H Q q)⟩
theorem pw_of {X:Cx} {e:Expr} {t t':TT} (h:PW X e t) (m:∀ σ H Q,t' σ H Q → t σ H Q):PW X e t':=⟨fun wh pins s σ H Q I q => h.run wh pins s σ H Q I (m σ H Q q)⟩
theorem pa_of {X:Cx} {e:List Expr} {t t':TA} (h:PA X e t) (m:∀ σ H Q,t' σ H Q → t σ H Q):PA X e t':=⟨fun pos pins s σ H Q I q => h.run pos pins s σ H Q I (m σ H Q q)⟩
section
variable {X:Cx} {e a b o:Expr} {es:List Expr} {pos:Pos} {G Ga Gb Gc:DG} {Gn:DN}
def dVar (i:Nat):DG:=fun δ Q => ∃ d,δ.vs[i]? = some (.val d) ∧ Q d δ
def dC (d:D):DG:=fun δ Q => Q d δ
theorem d_v {i:Nat} (h:PE X e (tVar i)):DE X e (dVar i):=pe_of h fun σ H Q ⟨en,F,R,W,δ,Kt,r,⟨d,h1,h2⟩,k⟩ => by
 obtain ⟨v,e1,e2⟩:=r.sl i _ h1
 exact ⟨v,e1,k _ _ _ _ _ _ _ h2 (fun _ _ e => e) (fun _ _ e => e) r e2⟩
theorem d_c {v:V} {d:D} (h:PE X e (tC v)) (hr:∀ F R,Rep X.K F R v d):DE X e (dC d):=pe_of h fun σ H Q ⟨en,F,R,W,δ,Kt,r,h2,k⟩ =>
 k _ _ _ _ _ _ _ h2 (fun _ _ e => e) (fun _ _ e => e) r (hr _ _)
theorem d_int {i j}:DE X (.Constant (.int i) j pos) (dC (.int i)):=d_c pe_int fun _ _ => .int i
theorem d_bl {b j}:DE X (.Constant (.bool b) j pos) (dC (.bl b)):=d_c pe_bl fun _ _ => .bl b
theorem d_str {x j}:DE X (.Constant (.str x) j pos) (dC (.str x)):=d_c pe_str fun _ _ => .str x
abbrev G2:=D → D → (D → Prop) → Prop
def dOp (g:G2) (Ga Gb:DG):DG:=fun δ Q => Ga δ fun x δ1 => Gb δ1 fun y δ2 => g x y fun z => Q z δ2
def LOp (K:PySem.W.Frag) (r:R2) (g:G2):Prop:=∀ (F:Hp) (R:List Addr) (H:Hp) (x y:V) (dx dy:D) (Q:VK) (Kt:D → Prop),Same F H → Rep K F R x dx → Rep K F R y dy → g dx dy Kt → (∀ d v,Kt d → Rep K F R v d → Q v H) → r x y H Q
theorem t_op {K:PySem.W.Frag} {r:R2} {g:G2} (l:LOp K r g):∀ σ H Q,tD K (dOp g Ga Gb) σ H Q → tOp r (tD K Ga) (tD K Gb) σ H Q:=by
 rintro σ H Q ⟨en,F,R,W,δ,Kt,r0,g0,k⟩
 refine ⟨en,F,R,W,δ,_,r0,g0,?_⟩
 intro dx δ1 F1 R1 W1 H1 x g1 s1 u1 r1 x1
 refine ⟨en,F1,R1,W1,δ1,_,r1,g1,?_⟩
 intro dy δ2 F2 R2 W2 H2 y g2 s2 u2 r2 y2
 exact l F2 R2 H2 x y dx dy Q _ r2.fh (x1.mono s2 u2) y2 g2 fun d v kd rv => k d δ2 F2 R2 W2 H2 v kd (sT s1 s2) (u1.trans u2) r2 rv
theorem d_op {op:Operator} {r:R2} {g:G2} (ho:OpR X (binaryOp op) r) (l:LOp X.K r g) (ha:DE X a Ga) (hb:DE X b Gb):DE X (.BinOp a op b pos) (dOp g Ga Gb):=pe_of (pe_op ho ha hb) (t_op l)
theorem d_cmp {op:CmpOp} {r:R2} {g:G2} (ho:OpR X (compareOp op) r) (l:LOp X.K r g) (ha:DE X a Ga) (hb:DE X b Gb) (hm:behindInMarks op b = false):DE X (.Compare a [op] [b] pos) (dOp g Ga Gb):=pe_of (pe_cmpR ho ha hb hm) (t_op l)
def dTst (G:DG):DB:=fun δ Q => G δ fun d δ' => ∃ b,d = .bl b ∧ Q b δ'
theorem t_tst {K:PySem.W.Frag}:∀ σ H (Q:Bool → Hp → Prop),tB K (dTst G) σ H Q → (tD K G) σ H (fun x H' => ∃ k,x = V.bl k ∧ Q k H'):=by
 rintro σ H Q ⟨en,F,R,W,δ,Kt,r0,g0,k⟩
 refine ⟨en,F,R,W,δ,_,r0,g0,?_⟩
 rintro d δ1 F1 R1 W1 H1 x ⟨c,rfl,kc⟩ s1 u1 r1 x1
 cases x1
 exact ⟨c,rfl,k c δ1 F1 R1 W1 H1 kc s1 u1 r1⟩
theorem dt_cmp {op:CmpOp} {r:R2} {g:G2} (ho:OpR X (compareOp op) r) (l:LOp X.K r g) (ha:DE X a Ga) (hb:DE X b Gb) (hm:behindInMarks op b = false):DT X (.Compare a [op] [b] pos) (dTst (dOp g Ga Gb)) :=
 pt_of (pt_cmpR ho ha hb hm) fun σ H Q h => by
  obtain ⟨en,F,R,W,δ,Kt,r0,g0,k⟩:=h
  refine t_op l σ H _ ⟨en,F,R,W,δ,_,r0,g0,?_⟩
  rintro d δ1 F1 R1 W1 H1 x ⟨c,rfl,kc⟩ s1 u1 r1 x1
  cases x1
  exact ⟨c,rfl,k c δ1 F1 R1 W1 H1 kc s1 u1 r1⟩
theorem dt_val (h:DE X e G) (he:∀ whole,isTrue e X.env whole = (do let v ← whole; standAt e.pos; holding [v] (truthy v)):=by intro _; rfl):DT X e (dTst G):=pt_of (pt_val h he) t_tst
def dAnd (A B:DB):DB:=fun δ Q => A δ fun c δ1 => if c = true then B δ1 Q else Q false δ1
def dOr (A B:DB):DB:=fun δ Q => A δ fun c δ1 => if c = true then Q true δ1 else B δ1 Q
def dNot (A:DB):DB:=fun δ Q => A δ fun c δ1 => Q (!c) δ1
variable {A B:DB} {rest:List Expr}
theorem dw_and1 (h:DT X a A):DTW X (.BoolOp .And [a] pos) A:=pw_and1 h
theorem dw_or1 (h:DT X a A):DTW X (.BoolOp .Or [a] pos) A:=pw_or1 h
theorem dw_and (ha:DT X a A) (hb:DTW X (.BoolOp .And (b :: rest) pos) B):DTW X (.BoolOp .And (a :: b :: rest) pos) (dAnd A B):=pw_of (pw_and ha hb) fun σ H Q ⟨en,F,R,W,δ,Kt,r0,g0,k⟩ => by
 refine ⟨en,F,R,W,δ,_,r0,g0,?_⟩
 intro c δ1 F1 R1 W1 H1 kc s1 u1 r1
 cases c with
 | true => exact ⟨en,F1,R1,W1,δ1,_,r1,kc,fun b δ2 F2 R2 W2 H2 kb s2 u2 r2 => k b δ2 F2 R2 W2 H2 kb (sT s1 s2) (u1.trans u2) r2⟩
 | false => exact k false δ1 F1 R1 W1 H1 kc s1 u1 r1
theorem dw_or (ha:DT X a A) (hb:DTW X (.BoolOp .Or (b :: rest) pos) B):DTW X (.BoolOp .Or (a :: b :: rest) pos) (dOr A B):=pw_of (pw_or ha hb) fun σ H Q ⟨en,F,R,W,δ,Kt,r0,g0,k⟩ => by
 refine ⟨en,F,R,W,δ,_,r0,g0,?_⟩
 intro c δ1 F1 R1 W1 H1 kc s1 u1 r1
 cases c with
 | false => exact ⟨en,F1,R1,W1,δ1,_,r1,kc,fun b δ2 F2 R2 W2 H2 kb s2 u2 r2 => k b δ2 F2 R2 W2 H2 kb (sT s1 s2) (u1.trans u2) r2⟩
 | true => exact k true δ1 F1 R1 W1 H1 kc s1 u1 r1
theorem dt_w (h:DTW X e A):DT X e A:=PW.pt h
theorem dt_not (h:DT X a A):DT X (.UnaryOp .Not a pos) (dNot A):=pt_of (pt_not h) fun σ H Q ⟨en,F,R,W,δ,Kt,r0,g0,k⟩ => ⟨en,F,R,W,δ,_,r0,g0,fun c δ1 F1 R1 W1 H1 kc s1 u1 r1 => k _ δ1 F1 R1 W1 H1 kc s1 u1 r1⟩
def dAndV (A B:DG):DG:=fun δ Q => A δ fun d δ1 => ∃ c,d = .bl c ∧ if c = true then B δ1 Q else Q (.bl false) δ1
def dOrV (A B:DG):DG:=fun δ Q => A δ fun d δ1 => ∃ c,d = .bl c ∧ if c = true then Q (.bl true) δ1 else B δ1 Q
def dNotV (A:DG):DG:=fun δ Q => A δ fun d δ1 => ∃ c,d = .bl c ∧ Q (.bl (!c)) δ1
theorem d_one {op} (h:DE X a G):DE X (.BoolOp op [a] pos) G:=pe_one h
theorem d_and (ha:DE X a Ga) (hb:DE X (.BoolOp .And (b :: rest) pos) Gb):DE X (.BoolOp .And (a :: b :: rest) pos) (dAndV Ga Gb):=pe_of (pe_and ha hb) fun σ H Q ⟨en,F,R,W,δ,Kt,r0,g0,k⟩ => by
 refine ⟨en,F,R,W,δ,_,r0,g0,?_⟩
 rintro d δ1 F1 R1 W1 H1 x ⟨c,rfl,kc⟩ s1 u1 r1 x1
 cases x1
 refine ⟨c,rfl,?_⟩
 cases c with
 | true => exact ⟨en,F1,R1,W1,δ1,_,r1,kc,fun b δ2 F2 R2 W2 H2 v kb s2 u2 r2 => k b δ2 F2 R2 W2 H2 v kb (sT s1 s2) (u1.trans u2) r2⟩
 | false => exact k _ δ1 F1 R1 W1 H1 _ kc s1 u1 r1 (.bl false)
def dIf (A:DB) (Ga Gb:DG):DG:=fun δ Q => A δ fun c δ1 => if c = true then Ga δ1 Q else Gb δ1 Q
theorem d_if {c:Expr} (hc:DT X c A) (ha:DE X a Ga) (hb:DE X b Gb):DE X (.IfExp c a b pos) (dIf A Ga Gb):=pe_of (pe_ifExp hc ha hb) fun σ H Q ⟨en,F,R,W,δ,Kt,r0,g0,k⟩ => by
 refine ⟨en,F,R,W,δ,_,r0,g0,?_⟩
 intro c δ1 F1 R1 W1 H1 kc s1 u1 r1
 cases c with
 | true => exact ⟨en,F1,R1,W1,δ1,_,r1,kc,fun b δ2 F2 R2 W2 H2 v kb s2 u2 r2 => k b δ2 F2 R2 W2 H2 v kb (sT s1 s2) (u1.trans u2) r2⟩
 | false => exact ⟨en,F1,R1,W1,δ1,_,r1,kc,fun b δ2 F2 R2 W2 H2 v kb s2 u2 r2 => k b δ2 F2 R2 W2 H2 v kb (sT s1 s2) (u1.trans u2) r2⟩
def aNil:DAr:=fun δ Q => Q [] δ
def aV (G:DG) (r:DAr):DAr:=fun δ Q => G δ fun d δ1 => r δ1 fun ds δ2 => Q (.val d :: ds) δ2
variable {Gr:DAr}
theorem a_nil:DA X [] aNil:=pa_of pa_nil fun σ H Q ⟨en,F,R,W,δ,Kt,r0,g0,k⟩ => k _ _ _ _ _ _ _ g0 (fun _ _ e => e) (fun _ _ e => e) r0 .nil
theorem a_v (ha:DE X e G) (hr:DA X es Gr) (hs:starEach (e :: es) X.env = (false,eval e X.env) :: starEach es X.env:=by rfl):DA X (e :: es) (aV G Gr):=pa_of (pa_cons ha hr hs) fun σ H Q ⟨en,F,R,W,δ,Kt,r0,g0,k⟩ => by
 refine ⟨en,F,R,W,δ,_,r0,g0,?_⟩
 intro d δ1 F1 R1 W1 H1 x g1 s1 u1 r1 x1
 refine ⟨en,F1,R1,W1,δ1,_,r1,g1,?_⟩
 intro as δ2 F2 R2 W2 H2 vs g2 s2 u2 r2 x2
 exact k _ δ2 F2 R2 W2 H2 _ g2 (sT s1 s2) (u1.trans u2) r2 (.cons (Rep.mono s2 u2 x1) x2)
def aB (G:DG) (r:DAr):DAr:=fun δ Q => G δ fun d δ1 => r δ1 fun ds δ2 => Q (.bv d :: ds) δ2
theorem a_b (ha:DE X e G) (hr:DA X es Gr) (hs:starEach (e :: es) X.env = (false,eval e X.env) :: starEach es X.env:=by rfl):DA X (e :: es) (aB G Gr):=pa_of (pa_cons ha hr hs) fun σ H Q ⟨en,F,R,W,δ,Kt,r0,g0,k⟩ => by
 refine ⟨en,F,R,W,δ,_,r0,g0,?_⟩
 intro d δ1 F1 R1 W1 H1 x g1 s1 u1 r1 x1
 refine ⟨en,F1,R1,W1,δ1,_,r1,g1,?_⟩
 intro as δ2 F2 R2 W2 H2 vs g2 s2 u2 r2 x2
 exact k _ δ2 F2 R2 W2 H2 _ g2 (sT s1 s2) (u1.trans u2) r2 (.cons (show ArAt X.K F2 R2 σ x (.bv d) from Rep.mono s2 u2 x1) x2)
def Lent:Option Sl → Prop
 | some (.own _) => True
 | some (.bor _) => True
 | some (.val _) => True
 | some (.slf _ _) => True
 | _ => False
def aSl (k:Nat) (r:DAr):DAr:=fun δ Q => Lent δ.vs[k]? ∧ r δ fun ds δ2 => Q (.slot k :: ds) δ2
theorem a_s {i:Nat} (h:PE X e (tVar i)) (hr:DA X es Gr) (hs:starEach (e :: es) X.env = (false,eval e X.env) :: starEach es X.env:=by rfl):DA X (e :: es) (aSl i Gr):=pa_of (pa_cons h hr hs) fun σ H Q ⟨en,F,R,W,δ,Kt,r0,⟨l,g0⟩,k⟩ => by
 have hv:∃ v,σ[i]? = some (some v):=by
  cases q:δ.vs[i]? with
  | none => rw [q] at l; exact l.elim
  | some s =>
   rw [q] at l
   have hs:=r0.sl i s q
   match s,hs with
   | .val d,⟨v,a,_⟩ => exact ⟨v,a⟩
   | .own ds,⟨a,xs,h1,_⟩ => exact ⟨_,h1⟩
   | .slf C ds,⟨a,dx,xs,h1,_⟩ => exact ⟨_,h1⟩
   | .bor ds,⟨a,xs,h1,_⟩ => exact ⟨_,h1⟩
   | .no,_ => exact l.elim
 obtain ⟨v,hv⟩:=hv
 refine ⟨v,hv,en,F,R,W,δ,_,r0,g0,?_⟩
 intro as δ2 F2 R2 W2 H2 vs g2 s2 u2 r2 x2
 exact k _ δ2 F2 R2 W2 H2 _ g2 s2 u2 r2 (.cons hv x2)
def dTup (Gr:DAr):DG:=fun δ Q => Gr δ fun as δ' => ∃ ds,valsOf as = some ds ∧ ds.length ≤ sizeLine ∧ Q (.tup ds) δ'
def nLst (Gr:DAr):DN:=fun δ Q => Gr δ fun as δ' => ∃ ds,valsOf as = some ds ∧ ds.length ≤ sizeLine ∧ Q ds δ'
theorem sqT_new {K:PySem.W.Frag} {F:Hp} {p:Addr} {xs:List V}:SqT K (upd F p (.tup xs)) p xs:=SqT.of upd_same
theorem d_tup {x1} (h:DA X es Gr):DE X (.Tuple es x1 pos) (dTup Gr):=pe_of (pe_tup h) fun σ H Q ⟨en,F,R,W,δ,Kt,r0,g0,k⟩ => by
 refine ⟨en,F,R,W,δ,_,r0,g0,?_⟩
 rintro as δ1 F1 R1 W1 H1 vs ⟨ds,hv,hl,kd⟩ s1 u1 r1 x1
 have x2:=x1.vals hv
 refine ⟨by rw [x2.length]; exact hl,fun p hp => ?_⟩
 obtain ⟨r2,s2⟩:=r1.newF (o := .tup vs) hp
 exact k _ δ1 _ R1 W1 _ _ kd (sT s1 s2) u1 r2 (.tup sqT_new (x2.mono s2 (Sub.refl _)))
end
end
section
section
variable {X:Cx} {e a b o:Expr} {es:List Expr} {pos:Pos} {G Ga Gb Gc:DG} {Gn Gm:DN} {Gr:DAr}
theorem n_lst (h:DA X es Gr):NE X (.List es pos) (nLst Gr):=pe_of (pe_lst h) fun σ H Q ⟨en,F,R,W,δ,Kt,r0,g0,k⟩ => by
 refine ⟨en,F,R,W,δ,_,r0,g0,?_⟩
 rintro as δ1 F1 R1 W1 H1 vs ⟨ds,hv,hl,kd⟩ s1 u1 r1 x1
 have x2:=x1.vals hv
 refine ⟨by rw [x2.length]; exact hl,fun p hp => ?_⟩
 exact k _ δ1 F1 R1 _ _ p vs kd s1 u1 (r1.newT hp) upd_same (r1.fNone hp) setW_same (r1.dm _ hp) x2
def dLst (Gn:DN):DG:=fun δ Q => Gn δ fun ds δ' => Q (.lst ds) δ'
theorem d_n (h:NE X e Gn):DE X e (dLst Gn):=pe_of h fun σ H Q ⟨en,F,R,W,δ,Kt,r0,g0,k⟩ => by
 refine ⟨en,F,R,W,δ,_,r0,g0,?_⟩
 rintro ds δ1 F1 R1 W1 H1 p xs kd s1 u1 r1 hp f w n x1
 exact k _ δ1 _ R1 _ H1 _ kd (sT s1 (Same.new f)) u1 (r1.frzT hp w (.inl n) f) (.lst upd_same (x1.mono (Same.new f) (Sub.refl _)))
def seqD:D → Option (List D)
 | .lst ds => some ds
 | .kls ds => some ds
 | .tup ds => some ds
 | _ => none
theorem Rep.seq {K:PySem.W.Frag} {F:Hp} {R:List Addr} {v:V} {d:D} {ds:List D} (h:Rep K F R v d) (e:seqD d = some ds):∃ a xs,v = .ref a ∧ SqA K F a xs ∧ RepAll K F R xs ds:=by
 cases h <;> simp [seqD] at e <;> subst e
 ·rename_i h1 h2; exact ⟨_,_,rfl,.inr h1,h2⟩
 ·rename_i h1 h2; exact ⟨_,_,rfl,.inl (SqL.of h1),h2⟩
 ·rename_i h1 h2; exact ⟨_,_,rfl,.inl h1,h2⟩
def sqOf (G:DG):DN:=fun δ Q => G δ fun d δ' => ∃ ds,seqD d = some ds ∧ Q ds δ'
theorem s_d (h:DE X e G):SE X e (sqOf G):=pe_of h fun σ H Q ⟨en,F,R,W,δ,Kt,r0,g0,k⟩ => by
 refine ⟨en,F,R,W,δ,_,r0,g0,?_⟩
 rintro d δ1 F1 R1 W1 H1 v ⟨ds,e,kd⟩ s1 u1 r1 x1
 obtain ⟨a,xs,rfl,h1,h2⟩:=x1.seq e
 exact k _ δ1 F1 R1 W1 H1 a xs kd s1 u1 r1 (same_a r1.fh h1) h2
theorem s_n (h:NE X e Gn):SE X e Gn:=pe_of h fun σ H Q ⟨en,F,R,W,δ,Kt,r0,g0,k⟩ => by
 refine ⟨en,F,R,W,δ,_,r0,g0,?_⟩
 rintro ds δ1 F1 R1 W1 H1 p xs kd s1 u1 r1 hp f w n x1
 exact k _ δ1 F1 R1 W1 H1 p xs kd s1 u1 r1 (.inl (SqL.of hp)) x1
def slotSeq:Option Sl → Option (List D)
 | some (.own ds) => some ds
 | some (.bor ds) => some ds
 | some (.val d) => seqD d
 | _ => none
theorem Rel.seq {K:PySem.W.Frag} {en:En} {F:Hp} {R:List Addr} {W:Own} {δ:DS} {σ:L2.St} {H:Hp} {i:Nat} {ds:List D} (r:Rel K en F R W δ σ H) (e:slotSeq δ.vs[i]? = some ds):∃ a xs,σ[i]? = some (some (.ref a)) ∧ SqA K H a xs ∧ RepAll K F R xs ds:=by
 cases q:δ.vs[i]? with
 | none => rw [q] at e; cases e
 | some s =>
  rw [q] at e
  have hs:=r.sl i s q
  match s,e,hs with
  | .own es,e,⟨a,xs,h1,h2,_,h4⟩ => obtain rfl:=Option.some.inj e; exact ⟨a,xs,h1,.inl (SqL.of h2),h4⟩
  | .bor es,e,⟨a,xs,h1,h2,h4⟩ => obtain rfl:=Option.some.inj e; exact ⟨a,xs,h1,h2.a,h4⟩
  | .val d,e,⟨v,h1,h2⟩ =>
   obtain ⟨a,xs,rfl,z1,z2⟩:=h2.seq e
   exact ⟨a,xs,h1,same_a r.fh z1,z2⟩
def sqSl (i:Nat):DN:=fun δ Q => ∃ ds,slotSeq δ.vs[i]? = some ds ∧ Q ds δ
theorem s_s {i:Nat} (h:PE X e (tVar i)):SE X e (sqSl i):=pe_of h fun σ H Q ⟨en,F,R,W,δ,Kt,r0,⟨ds,e,g0⟩,k⟩ => by
 obtain ⟨a,xs,h1,h2,h3⟩:=r0.seq e
 exact ⟨_,h1,k _ _ _ _ _ _ _ _ g0 (fun _ _ e => e) (Sub.refl _) r0 h2 h3⟩
def gI (C:Int → Int → Prop) (f:Int → Int → D):G2
 | .int i,.int j,Q => C i j ∧ Q (f i j)
 | _,_,_ => False
def gI0 (f:Int → Int → D):G2
 | .int i,.int j,Q => Q (f i j)
 | _,_,_ => False
theorem l_i0 {K:PySem.W.Frag} {f:Int → Int → V} {g:Int → Int → D} (h:∀ i j F R,Rep K F R (f i j) (g i j)):LOp K (rI0 f) (gI0 g):=by
 intro F R H x y dx dy Q Kt s hx hy hg k
 cases hx <;> cases hy <;> simp [gI0] at hg
 exact ⟨_,_,rfl,rfl,k _ _ hg (h _ _ _ _)⟩
theorem l_i {K:PySem.W.Frag} {C:Int → Int → Prop} {f:Int → Int → V} {g:Int → Int → D} (h:∀ i j F R,Rep K F R (f i j) (g i j)):LOp K (rI C f) (gI C g):=by
 intro F R H x y dx dy Q Kt s hx hy hg k
 cases hx <;> cases hy <;> simp [gI] at hg
 exact ⟨_,_,rfl,rfl,hg.1,k _ _ hg.2 (h _ _ _ _)⟩
theorem d_add (ha:DE X a Ga) (hb:DE X b Gb):DE X (.BinOp a .Add b pos) (dOp (gI0 fun i j => .int (i + j)) Ga Gb):=d_op op_add (l_i0 fun _ _ _ _ => .int _) ha hb
theorem d_mul (ha:DE X a Ga) (hb:DE X b Gb):DE X (.BinOp a .Mult b pos) (dOp (gI CMul fun i j => .int (i * j)) Ga Gb):=d_op op_mul (l_i fun _ _ _ _ => .int _) ha hb
theorem d_mod (ha:DE X a Ga) (hb:DE X b Gb):DE X (.BinOp a .Mod b pos) (dOp (gI (fun _ j => 0 < j) fun i j => .int (i % j)) Ga Gb):=d_op op_mod (l_i fun _ _ _ _ => .int _) ha hb
theorem d_fdiv (ha:DE X a Ga) (hb:DE X b Gb):DE X (.BinOp a .FloorDiv b pos) (dOp (gI CDiv fun i j => .int (i / j)) Ga Gb):=d_op op_fdiv (l_i fun _ _ _ _ => .int _) ha hb
theorem d_pow (ha:DE X a Ga) (hb:DE X b Gb):DE X (.BinOp a .Pow b pos) (dOp (gI CPow fun i j => .int (i ^ j.toNat)) Ga Gb):=d_op op_pow (l_i fun _ _ _ _ => .int _) ha hb
abbrev gLt:G2:=gI0 fun i j => .bl (decide (i < j))
abbrev gLe:G2:=gI0 fun i j => .bl (decide (i ≤ j))
abbrev gGt:G2:=gI0 fun i j => .bl (decide (j < i))
abbrev gGe:G2:=gI0 fun i j => .bl (decide (j ≤ i))
theorem l_lt {K:PySem.W.Frag}:LOp K (rI0 fun i j => .bl (decide (i < j))) gLt:=l_i0 fun _ _ _ _ => .bl _
theorem l_gt {K:PySem.W.Frag}:LOp K (rI0 fun i j => .bl (decide (j < i))) gGt:=l_i0 fun _ _ _ _ => .bl _
theorem l_ge {K:PySem.W.Frag}:LOp K (rI0 fun i j => .bl (decide (j ≤ i))) gGe:=l_i0 fun _ _ _ _ => .bl _
def gEq (neg:Bool → Bool):G2
 | .int i,.int j,Q => Q (.bl (neg (decide (i = j))))
 | .str i,.str j,Q => Q (.bl (neg (decide (i = j))))
 | .bl i,.bl j,Q => Q (.bl (neg (decide (i = j))))
 | .non,.non,Q => Q (.bl (neg true))
 | .non,.int _,Q => Q (.bl (neg false))
 | .int _,.non,Q => Q (.bl (neg false))
 | .non,.str _,Q => Q (.bl (neg false))
 | .str _,.non,Q => Q (.bl (neg false))
 | .int _,.str _,Q => Q (.bl (neg false))
 | .str _,.int _,Q => Q (.bl (neg false))
 | _,_,_ => False
theorem l_eq {K:PySem.W.Frag}:LOp K rEq (gEq id):=by
 intro F R H x y dx dy Q Kt s hx hy hg k
 cases hx <;> cases hy <;> simp [gEq] at hg <;> refine ⟨rfl,k _ _ hg ?_⟩ <;> simp <;> exact .bl _
theorem l_ne {K:PySem.W.Frag}:LOp K rNe (gEq not):=by
 intro F R H x y dx dy Q Kt s hx hy hg k
 cases hx <;> cases hy <;> simp [gEq] at hg <;> refine ⟨rfl,k _ _ hg ?_⟩ <;> simp <;> exact .bl _
def isN:D → Bool
 | .non => true
 | _ => false
def gIsN (neg:Bool → Bool):G2
 | x,.non,Q => Q (.bl (neg (isN x)))
 | _,_,_ => False
def gCat:G2
 | .str i,.str j,Q => i.length + j.length ≤ sizeLine ∧ Q (.str (i ++ j))
 | _,_,_ => False
theorem d_cat (ha:DE X a Ga) (hb:DE X b Gb):DE X (.BinOp a .Add b pos) (dOp gCat Ga Gb):=d_op op_add_str (by
 intro F R H x y dx dy Q Kt s hx hy hg k
 cases hx <;> cases hy <;> simp [gCat] at hg
 exact ⟨_,_,rfl,rfl,hg.1,k _ _ hg.2 (.str _)⟩) ha hb
def gInS:G2
 | .str i,.str j,Q => Q (.bl (!(Builtin.Str.occurrences j i 0 j.length 1).isEmpty))
 | _,_,_ => False
theorem atI_rep {K:PySem.W.Frag} {F:Hp} {R:List Addr} {xs:List V} {ds:List D} {i:Int} {d:D} (h:RepAll K F R xs ds) (e:atI ds i = some d):∃ v,atI xs i = some v ∧ Rep K F R v d:=by
 unfold atI at e ⊢
 rw [← h.length] at e
 cases q:ixN xs.length i with
 | none => rw [q] at e; cases e
 | some j => rw [q] at e; exact h.get e
def gIx:G2
 | .lst ds,.int i,Q => ∃ d,atI ds i = some d ∧ Q d
 | .kls ds,.int i,Q => ∃ d,atI ds i = some d ∧ Q d
 | .tup ds,.int i,Q => ∃ d,atI ds i = some d ∧ Q d
 | _,_,_ => False
theorem l_ix {K:PySem.W.Frag}:LOp K (rIxA K) gIx:=by
 intro F R H x y dx dy Q Kt s hx hy hg k
 cases hy with
 | int i =>
  have hs:∃ ds d,seqD dx = some ds ∧ atI ds i = some d ∧ Kt d:=by
   cases dx <;> simp only [gIx] at hg <;> first | exact hg.elim | (obtain ⟨d,h1,h2⟩:=hg; exact ⟨_,d,rfl,h1,h2⟩)
  obtain ⟨ds,d,h1,h2,h3⟩:=hs
  obtain ⟨a,xs,rfl,z1,z2⟩:=hx.seq h1
  obtain ⟨v,q1,q2⟩:=atI_rep z2 h2
  exact ⟨a,xs,i,v,rfl,rfl,same_a s z1,q1,k _ _ h3 q2⟩
 | _ => cases dx <;> simp [gIx] at hg
theorem d_ix (ha:DE X a Ga) (hb:DE X b Gb) (hs:PlainIx b):DE X (.Subscript a b pos) (dOp gIx Ga Gb):=pe_of (pe_ix (ix_any (K:=X.K)) ha hb hs) (t_op l_ix)
def gIxS:G2
 | .str z,.int i,Q => z.length ≤ sizeLine ∧ ∃ c,atI z.cps.toList i = some c ∧ Q (.str ⟨#[c]⟩)
 | _,_,_ => False
theorem d_ixS (ha:DE X a Ga) (hb:DE X b Gb) (hs:PlainIx b):DE X (.Subscript a b pos) (dOp gIxS Ga Gb):=pe_of (pe_ix ix_str ha hb hs) (t_op (by
 intro F R H x y dx dy Q Kt s hx hy hg k
 cases hx <;> cases hy <;> simp only [gIxS] at hg
 obtain ⟨h1,c,h2,h3⟩:=hg
 exact ⟨_,_,c,rfl,rfl,h1,h2,k _ _ h3 (.str _)⟩))
def dIxSl (i:Nat) (Gb:DG):DG:=fun δ Q => Lent δ.vs[i]? ∧ Gb δ fun y δ' => ∃ ds j d,slotSeq δ'.vs[i]? = some ds ∧ y = .int j ∧ atI ds j = some d ∧ Q d δ'
abbrev DO:=DS → (Option Int → DS → Prop) → Prop
def tO (K:PySem.W.Frag) (G:DO):TO:=fun σ H Q => ∃ en F R W δ Kt,Rel K en F R W δ σ H ∧ G δ Kt ∧ ∀ d δ' F' R' W' H',Kt d δ' → Same F F' → Sub R R' → Rel K en F' R' W' δ' σ H' → Q d H'
def OE (X:Cx) (e:Option Expr) (G:DO):Prop:=PO X e (tO X.K G)
theorem po_of {e:Option Expr} {t t':TO} (h:PO X e t) (m:∀ σ H Q,t' σ H Q → t σ H Q):PO X e t':=⟨fun pins s σ H Q I q => h.run pins s σ H Q I (m σ H Q q)⟩
def oNo:DO:=fun δ Q => Q none δ
def oSm (G:DG):DO:=fun δ Q => G δ fun d δ' => ∃ i,d = .int i ∧ Q (some i) δ'
theorem o_no:OE X none oNo:=po_of po_none fun σ H Q ⟨en,F,R,W,δ,Kt,r0,g0,k⟩ => k _ _ _ _ _ _ g0 (fun _ _ e => e) (Sub.refl _) r0
theorem o_sm (h:DE X e G):OE X (some e) (oSm G):=po_of (po_some h) fun σ H Q ⟨en,F,R,W,δ,Kt,r0,g0,k⟩ => by
 refine ⟨en,F,R,W,δ,_,r0,g0,?_⟩
 rintro y δ1 F1 R1 W1 H1 vy ⟨i,rfl,kd⟩ s1 u1 r1 x1
 cases x1
 exact ⟨i,rfl,k _ _ _ _ _ _ kd s1 u1 r1⟩
variable {lo hi:Option Expr} {Gl Gh:DO} {p2:Pos}
def dSlS (G:DG) (Gl Gh:DO):DG:=fun δ Q => G δ fun x δ1 => Gl δ1 fun l δ2 => Gh δ2 fun u δ3 => ∃ z,x = .str z ∧ z.length ≤ sizeLine ∧ Q (.str (cutS z l u)) δ3
theorem d_slS (he:DE X e G) (hl:OE X lo Gl) (hu:OE X hi Gh):DE X (.Subscript e (.Slice lo hi none p2) pos) (dSlS G Gl Gh):=pe_of (pe_slice sl_str he hl hu) fun σ H Q ⟨en,F,R,W,δ,Kt,r0,g0,k⟩ => by
 refine ⟨en,F,R,W,δ,_,r0,g0,?_⟩
 intro x δ1 F1 R1 W1 H1 vx g1 s1 u1 r1 x1
 refine ⟨en,F1,R1,W1,δ1,_,r1,g1,?_⟩
 intro l δ2 F2 R2 W2 H2 g2 s2 u2 r2
 refine ⟨en,F2,R2,W2,δ2,_,r2,g2,?_⟩
 rintro u δ3 F3 R3 W3 H3 ⟨z,rfl,hz,kd⟩ s3 u3 r3
 cases x1
 exact ⟨z,rfl,hz,k _ _ _ _ _ _ _ kd (sT s1 (sT s2 s3)) (u1.trans (u2.trans u3)) r3 (.str _)⟩
def cutD (xs:List D) (lo hi:Option Int):List D:=(xs.drop (HT.sIx xs.length 0 lo)).take (HT.sIx xs.length xs.length hi - HT.sIx xs.length 0 lo)
theorem cut_rep {K:PySem.W.Frag} {F:Hp} {R:List Addr} {xs:List V} {ds:List D} {lo hi:Option Int} (h:RepAll K F R xs ds):RepAll K F R (cutV xs lo hi) (cutD ds lo hi):=by
 unfold cutV cutD
 rw [h.length]
 exact (h.drop _).take _
def lstD:D → Option (List D)
 | .lst ds => some ds
 | .kls ds => some ds
 | _ => none
def nSl (G:DG) (Gl Gh:DO):DN:=fun δ Q => G δ fun x δ1 => Gl δ1 fun l δ2 => Gh δ2 fun u δ3 => ∃ ds,lstD x = some ds ∧ Q (cutD ds l u) δ3
theorem n_sl (he:DE X e G) (hl:OE X lo Gl) (hu:OE X hi Gh):NE X (.Subscript e (.Slice lo hi none p2) pos) (nSl G Gl Gh):=pe_of (pe_slice sl_list he hl hu) fun σ H Q ⟨en,F,R,W,δ,Kt,r0,g0,k⟩ => by
 refine ⟨en,F,R,W,δ,_,r0,g0,?_⟩
 intro x δ1 F1 R1 W1 H1 vx g1 s1 u1 r1 x1
 refine ⟨en,F1,R1,W1,δ1,_,r1,g1,?_⟩
 intro l δ2 F2 R2 W2 H2 g2 s2 u2 r2
 refine ⟨en,F2,R2,W2,δ2,_,r2,g2,?_⟩
 rintro u δ3 F3 R3 W3 H3 ⟨ds,hz,kd⟩ s3 u3 r3
 have x3:=x1.mono (sT s2 s3) (u2.trans u3)
 have:∃ a xs,vx = .ref a ∧ SqL X.K F3 a xs ∧ RepAll X.K F3 R3 xs ds:=by
  cases x3 <;> simp [lstD] at hz <;> subst hz
  ·rename_i h1 h2; exact ⟨_,_,rfl,SqL.of h1,h2⟩
  ·rename_i h1 h2; exact ⟨_,_,rfl,h1,h2⟩
 obtain ⟨a,xs,rfl,h1,h2⟩:=this
 refine ⟨a,xs,rfl,same_l r3.fh h1,fun p hp => ?_⟩
 exact k _ δ3 F3 R3 _ _ p _ kd (sT s1 (sT s2 s3)) (u1.trans (u2.trans u3)) (r3.newT hp) upd_same (r3.fNone hp) setW_same (r3.dm _ hp) (cut_rep h2)
def nSlSl (i:Nat) (Gl Gh:DO):DN:=fun δ Q => Lent δ.vs[i]? ∧ Gl δ fun l δ2 => Gh δ2 fun u δ3 => ∃ ds,δ3.vs[i]? = some (.own ds) ∧ Q (cutD ds l u) δ3
def nCat (Ga Gb:DG):DN:=fun δ Q => Ga δ fun x δ1 => Gb δ1 fun y δ2 => ∃ ds es,x = .lst ds ∧ y = .lst es ∧ ds.length + es.length ≤ sizeLine ∧ Q (ds ++ es) δ2
theorem n_cat (ha:DE X a Ga) (hb:DE X b Gb):NE X (.BinOp a .Add b pos) (nCat Ga Gb):=pe_of (pe_op op_cat ha hb) fun σ H Q ⟨en,F,R,W,δ,Kt,r0,g0,k⟩ => by
 refine ⟨en,F,R,W,δ,_,r0,g0,?_⟩
 intro x δ1 F1 R1 W1 H1 vx g1 s1 u1 r1 x1
 refine ⟨en,F1,R1,W1,δ1,_,r1,g1,?_⟩
 rintro y δ2 F2 R2 W2 H2 vy ⟨ds,es,rfl,rfl,hl,kd⟩ s2 u2 r2 y2
 cases x1 with
 | lst h1 h2 =>
  cases y2 with
  | lst h3 h4 =>
   have h2':=h2.mono s2 u2
   refine ⟨_,_,_,_,rfl,rfl,r2.fh _ _ (s2 _ _ h1),r2.fh _ _ h3,by rw [h2.length,h4.length]; exact hl,fun p hp => ?_⟩
   exact k _ δ2 F2 R2 _ _ p _ kd (sT s1 s2) (u1.trans u2) (r2.newT hp) upd_same (r2.fNone hp) setW_same (r2.dm _ hp) (h2'.append h4)
def fld (S:Sto) (C:Addr) (f:Str):D → Option D
 | .obj C' fs => if C' = C then fs.lookup f else none
 | .ref i => match S i with
  | some (.ins C' fs) => if C' = C then fs.lookup f else none
  | _ => none
 | _ => none
def dFld (C:Addr) (f:Str) (G:DG):DG:=fun δ Q => G δ fun d δ' => ∃ v,fld δ'.S C f d = some v ∧ Q v δ'
theorem d_fld {C:Addr} {f:Str} (hc:Cls X.K C ∧ NoAttr X.K C f) (he:DE X e G) (hb:attributeBase e f X.env (eval e X.env) = eval e X.env:=by rfl):DE X (.Attribute e f pos) (dFld C f G):=pe_of (pe_fld he hb) fun σ H Q ⟨en,F,R,W,δ,Kt,r0,g0,k⟩ => by
 refine ⟨en,F,R,W,δ,_,r0,g0,?_⟩
 rintro d δ1 F1 R1 W1 H1 v ⟨w,e1,kd⟩ s1 u1 r1 x1
 cases x1 <;> simp only [fld] at e1 <;> try cases e1
 ·rename_i h1 h2
  split at e1
  ·rename_i ec
   subst ec
   obtain ⟨u,q1,q2⟩:=h2.look e1
   exact ⟨_,_,_,_,u,rfl,r1.fh _ _ h1,hc.1,hc.2,q1,k _ _ _ _ _ _ _ kd s1 u1 r1 q2⟩
  ·cases e1
 ·rename_i a i h1
  cases q:δ1.S i with
  | none => rw [q] at e1; cases e1
  | some c =>
   rw [q] at e1
   cases c with
   | ins C' fs =>
    simp only at e1
    split at e1
    ·rename_i ec
     subst ec
     obtain ⟨b,z1,z2,dx,xs,z3,z4⟩:=r1.ce i _ q
     rw [h1] at z1
     obtain rfl:=Option.some.inj z1
     obtain ⟨u,q1,q2⟩:=z4.look e1
     exact ⟨_,_,_,_,u,rfl,z3,hc.1,hc.2,q1,k _ _ _ _ _ _ _ kd s1 u1 r1 q2⟩
    ·cases e1
   | _ => cases e1
end
end
section
structure DEnds where
 nx:DS → Prop
 rt:D → DS → Prop
 bk:DS → Prop:=fun _ => False
 ct:DS → Prop:=fun _ => False
abbrev DSt:=DEnds → DS → Prop
def tS (K:PySem.W.Frag) (G:DSt):TS:=fun D σ H => ∃ en F R W δ DD,Rel K en F R W δ σ H ∧ G DD δ ∧
 (∀ δ' F' R' W' σ' H',DD.nx δ' → Same F F' → Sub R R' → Rel K en F' R' W' δ' σ' H' → D.nx σ' H') ∧
 (∀ d δ' F' R' W' σ' H' v,DD.rt d δ' → Same F F' → Sub R R' → Rel K en F' R' W' δ' σ' H' → Rep K F' R' v d → D.rt v H') ∧
 (∀ δ' F' R' W' σ' H',DD.bk δ' → Same F F' → Sub R R' → Rel K en F' R' W' δ' σ' H' → D.bk σ' H') ∧
 (∀ δ' F' R' W' σ' H',DD.ct δ' → Same F F' → Sub R R' → Rel K en F' R' W' δ' σ' H' → D.ct σ' H')
def DStm (X:Cx) (st:Stmt) (G:DSt):Prop:=PS X st (tS X.K G)
def DSts (X:Cx) (st:List Stmt) (G:DSt):Prop:=PSs X st (tS X.K G)
theorem ps_of {X:Cx} {e:Stmt} {t t':TS} (h:PS X e t) (m:∀ D σ H,t' D σ H → t D σ H):PS X e t':=⟨fun pins s σ H D I q => h.run pins s σ H D I (m D σ H q)⟩
theorem pss_of {X:Cx} {e:List Stmt} {t t':TS} (h:PSs X e t) (m:∀ D σ H,t' D σ H → t D σ H):PSs X e t':=⟨fun pins s σ H D I q => h.run pins s σ H D I (m D σ H q)⟩
section
variable {X:Cx} {st:Stmt} {rest:List Stmt} {e a b o:Expr} {es:List Expr} {pos:Pos} {G Ga Gb Gc:DG} {Gn Gm:DN} {Gr:DAr} {A B:DB} {T U:DSt}
def dNext:DSt:=fun D δ => D.nx δ
def dSeq (T U:DSt):DSt:=fun D δ => T { D with nx:=U D } δ
def dCut (T U:DSt):DSt:=fun D δ => ∃ Mid:DS → Prop,T { D with nx:=Mid } δ ∧ ∀ δ',Mid δ' → U D δ'
theorem s_nil:DSts X [] dNext:=pss_of pss_nil fun D σ H ⟨en,F,R,W,δ,DD,r0,g0,k,_⟩ => k _ _ _ _ _ _ g0 (fun _ _ e => e) (Sub.refl _) r0
theorem s_one (h:DStm X st T):DSts X [st] T:=pss_one h
theorem s_cons (h1:DStm X st T) (h2:DSts X rest U):DSts X (st :: rest) (dSeq T U):=pss_of (pss_cons h1 h2) fun D σ H ⟨en,F,R,W,δ,DD,r0,g0,k,k1,k2,k3⟩ => by
 refine ⟨en,F,R,W,δ,_,r0,g0,?_,k1,k2,k3⟩
 intro δ1 F1 R1 W1 σ1 H1 g1 s1 u1 r1
 exact ⟨en,F1,R1,W1,δ1,DD,r1,g1,fun _ _ _ _ _ _ z s2 u2 r2 => k _ _ _ _ _ _ z (sT s1 s2) (u1.trans u2) r2,fun _ _ _ _ _ _ _ _ z s2 u2 r2 v2 => k1 _ _ _ _ _ _ _ _ z (sT s1 s2) (u1.trans u2) r2 v2,
  fun _ _ _ _ _ _ z s2 u2 r2 => k2 _ _ _ _ _ _ z (sT s1 s2) (u1.trans u2) r2,fun _ _ _ _ _ _ z s2 u2 r2 => k3 _ _ _ _ _ _ z (sT s1 s2) (u1.trans u2) r2⟩
theorem s_cut (h1:DStm X st T) (h2:DSts X rest U):DSts X (st :: rest) (dCut T U):=pss_of (pss_cons h1 h2) fun D σ H ⟨en,F,R,W,δ,DD,r0,⟨Mid,g0,gm⟩,k,k1,k2,k3⟩ => by
 refine ⟨en,F,R,W,δ,_,r0,g0,?_,k1,k2,k3⟩
 intro δ1 F1 R1 W1 σ1 H1 g1 s1 u1 r1
 exact ⟨en,F1,R1,W1,δ1,DD,r1,gm _ g1,fun _ _ _ _ _ _ z s2 u2 r2 => k _ _ _ _ _ _ z (sT s1 s2) (u1.trans u2) r2,fun _ _ _ _ _ _ _ _ z s2 u2 r2 v2 => k1 _ _ _ _ _ _ _ _ z (sT s1 s2) (u1.trans u2) r2 v2,
  fun _ _ _ _ _ _ z s2 u2 r2 => k2 _ _ _ _ _ _ z (sT s1 s2) (u1.trans u2) r2,fun _ _ _ _ _ _ z s2 u2 r2 => k3 _ _ _ _ _ _ z (sT s1 s2) (u1.trans u2) r2⟩
def dNever:DSt:=fun _ _ => False
def dDrop (G:DG):DSt:=fun D δ => G δ fun _ δ' => D.nx δ'
theorem s_expr (he:DE X e G) (hs:swapsWith e none pos.line X.env = pure false:=by rfl):DStm X (.Expr e pos) (dDrop G):=ps_of (ps_expr he hs) fun D σ H ⟨en,F,R,W,δ,DD,r0,g0,k,_⟩ =>
 ⟨en,F,R,W,δ,_,r0,g0,fun d δ1 F1 R1 W1 H1 v g1 s1 u1 r1 _ => k _ _ _ _ _ _ g1 s1 u1 r1⟩
def dRet (G:DG):DSt:=fun D δ => G δ D.rt
theorem s_ret (he:DE X e G):DStm X (.Return (some e) pos) (dRet G):=ps_of (ps_ret he) fun D σ H ⟨en,F,R,W,δ,DD,r0,g0,_,k,_⟩ =>
 ⟨en,F,R,W,δ,_,r0,g0,fun d δ1 F1 R1 W1 H1 v g1 s1 u1 r1 x1 => k _ _ _ _ _ _ _ _ g1 s1 u1 r1 x1⟩
def dRetN:DSt:=fun D δ => D.rt .non δ
def dIfS (A:DB) (T U:DSt):DSt:=fun D δ => A δ fun b δ' => if b = true then T D δ' else U D δ'
theorem s_if {c:Expr} {sa sb:List Stmt} (hc:DT X c A) (ha:DSts X sa T) (hb:DSts X sb U):DStm X (.If c sa sb pos) (dIfS A T U):=ps_of (ps_if hc ha hb) fun D σ H ⟨en,F,R,W,δ,DD,r0,g0,k,k1,k2,k3⟩ => by
 refine ⟨en,F,R,W,δ,_,r0,g0,?_⟩
 intro c δ1 F1 R1 W1 H1 g1 s1 u1 r1
 have go:∀ {V:DSt},V DD δ1 → tS X.K V D σ H1:=fun {V} gv => ⟨en,F1,R1,W1,δ1,DD,r1,gv,fun _ _ _ _ _ _ z s2 u2 r2 => k _ _ _ _ _ _ z (sT s1 s2) (u1.trans u2) r2,fun _ _ _ _ _ _ _ _ z s2 u2 r2 v2 => k1 _ _ _ _ _ _ _ _ z (sT s1 s2) (u1.trans u2) r2 v2,
  fun _ _ _ _ _ _ z s2 u2 r2 => k2 _ _ _ _ _ _ z (sT s1 s2) (u1.trans u2) r2,fun _ _ _ _ _ _ z s2 u2 r2 => k3 _ _ _ _ _ _ z (sT s1 s2) (u1.trans u2) r2⟩
 cases c with
 | true => exact go g1
 | false => exact go g1
abbrev DTg:=D → DS → (DS → Prop) → Prop
def tG (K:PySem.W.Frag) (is:List Nat) (g:DTg):TG:=fun v σ H Q => ∃ en F R W δ d Kt,Rel K en F R W δ σ H ∧ Rep K F R v d ∧ g d δ Kt ∧
 ∀ δ' F' R' W' σ' H',Kt δ' → Same F F' → Sub R R' → Rel K en F' R' W' δ' σ' H' → σ'.length = σ.length → (∀ j:Nat,j ∉ is → σ'[j]? = σ[j]?) → Q σ' H'
def DPg (X:Cx) (tg:Expr) (is:List Nat) (g:DTg):Prop:=PG X tg (tG X.K is g)
theorem pg_of {tg:Expr} {t t':TG} (h:PG X tg t) (m:∀ v σ H Q,t' v σ H Q → t v σ H Q):PG X tg t':=⟨fun pins s σ H v u Q I r q => h.run pins s σ H v u Q I r (m v σ H Q q)⟩
theorem pgs_of {tg:List Expr} {t t':TGs} (h:PGs X tg t) (m:∀ v σ H Q,t' v σ H Q → t v σ H Q):PGs X tg t':=⟨fun pins s σ H v u Q I r q => h.run pins s σ H v u Q I r (m v σ H Q q)⟩
def dgName (i:Nat):DTg:=fun d δ Q => i < δ.vs.length ∧ Q ⟨δ.vs.set i (.val d),δ.S⟩
theorem g_name {tg:Expr} {i:Nat} (h:PG X tg (gName i)):DPg X tg [i] (dgName i):=pg_of h fun v σ H Q ⟨en,F,R,W,δ,d,Kt,r0,v0,⟨hi,g0⟩,k⟩ =>
 k _ _ _ _ _ _ g0 (fun _ _ e => e) (Sub.refl _) (r0.setV v0 (by rw [← r0.ln]; exact hi)) (by simp) (fun j hj => by rw [List.getElem?_set_ne (fun z => hj (by simp [z]))])
abbrev DTgs:=List D → DS → (DS → Prop) → Prop
def tGs (K:PySem.W.Frag) (is:List Nat) (g:DTgs):TGs:=fun vs σ H Q => ∃ en F R W δ ds Kt,Rel K en F R W δ σ H ∧ RepAll K F R vs ds ∧ g ds δ Kt ∧
 ∀ δ' F' R' W' σ' H',Kt δ' → Same F F' → Sub R R' → Rel K en F' R' W' δ' σ' H' → σ'.length = σ.length → (∀ j:Nat,j ∉ is → σ'[j]? = σ[j]?) → Q σ' H'
def DPgs (X:Cx) (tg:List Expr) (is:List Nat) (g:DTgs):Prop:=PGs X tg (tGs X.K is g)
def dgNil:DTgs:=fun ds δ Q => ds = [] ∧ Q δ
def dgCons (g:DTg) (r:DTgs):DTgs:=fun ds δ Q => match ds with
 | d :: t => g d δ fun δ1 => r t δ1 Q
 | [] => False
theorem gs_nil:DPgs X [] [] dgNil:=pgs_of pgs_nil fun vs σ H Q ⟨en,F,R,W,δ,ds,Kt,r0,v0,⟨hd,g0⟩,k⟩ => by
 subst hd
 cases v0
 exact ⟨rfl,k _ _ _ _ _ _ g0 (fun _ _ e => e) (Sub.refl _) r0 rfl (fun _ _ => rfl)⟩
theorem gs_cons {t1:Expr} {ts:List Expr} {is js:List Nat} {g:DTg} {r:DTgs} (h1:DPg X t1 is g) (h2:DPgs X ts js r) (hs:(assignEach (t1 :: ts) X.env).map (·.2) = assign t1 X.env :: (assignEach ts X.env).map (·.2):=by rfl):DPgs X (t1 :: ts) (is ++ js) (dgCons g r) :=
 pgs_of (pgs_cons h1 h2 hs) fun vs σ H Q ⟨en,F,R,W,δ,ds,Kt,r0,v0,g0,k⟩ => by
 cases v0 with
 | nil => exact g0.elim
 | @cons vx d vs' t x1 x2 =>
  refine ⟨_,_,rfl,en,F,R,W,δ,d,_,r0,x1,g0,?_⟩
  intro δ1 F1 R1 W1 σ1 H1 g1 s1 u1 r1 l1 n1
  refine ⟨en,F1,R1,W1,δ1,t,_,r1,x2.mono s1 u1,g1,?_⟩
  intro δ2 F2 R2 W2 σ2 H2 g2 s2 u2 r2 l2 n2
  exact k _ _ _ _ _ _ g2 (sT s1 s2) (u1.trans u2) r2 (l2.trans l1) (fun j hj => by rw [List.mem_append,not_or] at hj; rw [n2 j hj.2,n1 j hj.1])
def dgTup (n:Nat) (r:DTgs):DTg:=fun d δ Q => ∃ ds,d = .tup ds ∧ ds.length = n ∧ r ds δ Q
theorem g_tup {ts:List Expr} {kk n:Nat} {is:List Nat} {r:DTgs} (hc:X.calm = true) (h:DPgs X ts is r) (hn:(assignEach ts X.env).length = n:=by rfl) (hst:(assignEach ts X.env).findIdx? (·.1) = none:=by rfl):DPg X (.Tuple ts kk pos) is (dgTup n r) :=
 pg_of (pg_tup hc h hn hst) fun v σ H Q ⟨en,F,R,W,δ,d,Kt,r0,v0,⟨ds,hd,hl,g0⟩,k⟩ => by
 subst hd
 cases v0 with
 | tup h1 h2 => exact ⟨_,_,rfl,same_t r0.fh h1,by rw [h2.length]; exact hl,en,F,R,W,δ,ds,Kt,r0,h2,g0,k⟩
def dgUnl (n:Nat) (r:DTgs):DTg:=fun d δ Q => ∃ ds,d = .lst ds ∧ ds.length = n ∧ r ds δ Q
def dAsg (G:DG) (g:DTg):DSt:=fun D δ => G δ fun d δ' => g d δ' D.nx
theorem s_asg {tg:Expr} {is:List Nat} {g:DTg} (he:DE X e G) (hg:DPg X tg is g) (hs:swapsWithSole [tg] e pos.line X.env = pure false:=by rfl) (hw:swappedStores [tg] e X.env = pure none:=by rfl)
  (h1:(assignEach [tg] X.env).map (·.2) = [assign tg X.env]:=by rfl):DStm X (.Assign [tg] e pos) (dAsg G g):=ps_of (ps_asg he hg hs hw h1) fun D σ H ⟨en,F,R,W,δ,DD,r0,g0,k,_⟩ =>
 ⟨en,F,R,W,δ,_,r0,g0,fun d δ1 F1 R1 W1 H1 v g1 s1 u1 r1 x1 => ⟨en,F1,R1,W1,δ1,d,_,r1,x1,g1,fun _ _ _ _ _ _ z s2 u2 r2 _ _ => k _ _ _ _ _ _ z (sT s1 s2) (u1.trans u2) r2⟩⟩
def dSet (i:Nat) (G:DG):DSt:=fun D δ => G δ fun d δ' => i < δ'.vs.length ∧ D.nx ⟨δ'.vs.set i (.val d),δ'.S⟩
theorem s_set {i:Nat} {x:Str} {pos':Pos} (hN:X.N.Nodup) (hi:X.N[i]? = some x) (hx:Loc X.env.scope x) (he:DE X e G) (hs:swapsWith e (some (.Name x pos')) pos.line X.env = pure false:=by rfl) (hf:X.fn x = true ∨ X.env.scope.names.lookup x = some .local:=by first | exact .inl rfl | exact .inr rfl | assumption) :
  DStm X (.Assign [.Name x pos'] e pos) (dSet i G):=ps_of (ps_set hN hi hx he hs hf) fun D σ H ⟨en,F,R,W,δ,DD,r0,g0,k,_⟩ =>
 ⟨en,F,R,W,δ,_,r0,g0,fun d δ1 F1 R1 W1 H1 v ⟨hi,g1⟩ s1 u1 r1 x1 => k _ _ _ _ _ _ g1 s1 u1 (r1.setV x1 (by rw [← r1.ln]; exact hi))⟩
def dOwn (i:Nat) (G:DN):DSt:=fun D δ => G δ fun ds δ' => i < δ'.vs.length ∧ D.nx ⟨δ'.vs.set i (.own ds),δ'.S⟩
theorem s_own {i:Nat} {x:Str} {pos':Pos} (hN:X.N.Nodup) (hi:X.N[i]? = some x) (hx:Loc X.env.scope x) (he:NE X e Gn) (hs:swapsWith e (some (.Name x pos')) pos.line X.env = pure false:=by rfl) (hf:X.fn x = true ∨ X.env.scope.names.lookup x = some .local:=by first | exact .inl rfl | exact .inr rfl | assumption) :
  DStm X (.Assign [.Name x pos'] e pos) (dOwn i Gn):=ps_of (ps_set hN hi hx he hs hf) fun D σ H ⟨en,F,R,W,δ,DD,r0,g0,k,_⟩ =>
 ⟨en,F,R,W,δ,_,r0,g0,fun ds δ1 F1 R1 W1 H1 p xs ⟨hi,g1⟩ s1 u1 r1 hp f w n x1 => k _ _ _ _ _ _ g1 s1 u1 (r1.own hp w (.inl n) f x1 (by rw [← r1.ln]; exact hi))⟩
def dFrz (i:Nat):DG:=fun δ Q => ∃ ds,δ.vs[i]? = some (.own ds) ∧ Q (.lst ds) ⟨δ.vs.set i (.val (.lst ds)),δ.S⟩
theorem d_frz {i:Nat} (h:PE X e (tVar i)):DE X e (dFrz i):=pe_of h fun σ H Q ⟨en,F,R,W,δ,Kt,r0,⟨ds,h1,h2⟩,k⟩ => by
 obtain ⟨p,xs,z1,z2,z3,z4⟩:=r0.sl i _ h1
 have f:F p = none:=by
  cases q:F p with
  | none => rfl
  | some u => have:=r0.fw _ _ q; rw [z3] at this; cases this
 have hn:=r0.may z3 (by simp)
 have il:i < δ.vs.length:=(List.getElem?_eq_some_iff.mp h1).1
 have s:Same F (upd F p (.lst xs)):=Same.new f
 have r1:Rel X.K en F R (setW W p none) ⟨δ.vs.set i .no,δ.S⟩ σ H:=r0.reown (δ':=⟨δ.vs.set i .no,δ.S⟩) f ⟨_,z2⟩ (.inr hn) (by simp) (fun j s e => by
  have e':(δ.vs.set i .no)[j]? = some s:=e
  by_cases y:i = j
  ·subst y
   rw [List.getElem?_set_self il] at e'
   obtain rfl:=Option.some.inj e'
   exact .inr trivial
  ·rw [List.getElem?_set_ne y] at e'
   exact .inl ⟨by rw [z3]; intro q; injection q with q; injection q with q; exact y q,e',.inr rfl⟩) (fun j c e => .inl ⟨by rw [z3]; simp,e⟩)
 have r2:=r1.frz z2 setW_same hn f
 have r3:Rel X.K en (upd F p (.lst xs)) R (setW W p none) ⟨δ.vs.set i (.val (.lst ds)),δ.S⟩ σ H:=r2.slots (by simp [r0.ln]) fun j s e => by
  by_cases y:i = j
  ·subst y
   rw [List.getElem?_set_self il] at e
   obtain rfl:=Option.some.inj e
   exact ⟨_,z1,.lst upd_same (z4.mono s (Sub.refl _))⟩
  ·rw [List.getElem?_set_ne y] at e
   exact r2.sl j s (by show (δ.vs.set i .no)[j]? = _; rw [List.getElem?_set_ne y]; exact e)
 exact ⟨_,z1,k _ _ _ _ _ _ _ h2 s (Sub.refl _) r3 (.lst upd_same (z4.mono s (Sub.refl _)))⟩
theorem Rel.putOwn {K:PySem.W.Frag} {en:En} {F:Hp} {R:List Addr} {W:Own} {δ:DS} {σ:L2.St} {H:Hp} {i:Nat} {ds es:List D} (r:Rel K en F R W δ σ H) (h:δ.vs[i]? = some (.own ds)) :
  ∃ p xs,σ[i]? = some (some (.ref p)) ∧ H p = some (.lst xs) ∧ RepAll K F R xs ds ∧ ∀ ys,RepAll K F R ys es → Rel K en F R W ⟨δ.vs.set i (.own es),δ.S⟩ σ (upd H p (.lst ys)):=by
 obtain ⟨p,xs,z1,z2,z3,z4⟩:=r.sl i _ h
 have il:i < δ.vs.length:=(List.getElem?_eq_some_iff.mp h).1
 refine ⟨p,xs,z1,z2,z4,fun ys hy => r.put (δ':=⟨δ.vs.set i (.own es),δ.S⟩) z3 (r.may z3 (by simp)) (by simp) (fun j s e => ?_) (fun j c e => .inl ⟨by simp,e⟩)⟩
 have e':(δ.vs.set i (.own es))[j]? = some s:=e
 by_cases y:i = j
 ·subst y
  rw [List.getElem?_set_self il] at e'
  obtain rfl:=Option.some.inj e'
  exact .inr ⟨p,ys,z1,upd_same,z3,hy⟩
 ·rw [List.getElem?_set_ne y] at e'
  exact .inl ⟨fun q => by injection q with q; exact y q,e'⟩
def isOwn:Option Sl → Prop
 | some (.own _) => True
 | _ => False
theorem Rel.ownAt {K:PySem.W.Frag} {en:En} {F:Hp} {R:List Addr} {W:Own} {δ:DS} {σ:L2.St} {H:Hp} {i:Nat} (r:Rel K en F R W δ σ H) (h:isOwn δ.vs[i]?):∃ p xs,σ[i]? = some (some (.ref p)) ∧ H p = some (.lst xs):=by
 cases q:δ.vs[i]? with
 | none => rw [q] at h; exact h.elim
 | some s =>
  rw [q] at h
  match s,q with
  | .own ds,q => obtain ⟨p,xs,z1,z2,_⟩:=r.sl i _ q; exact ⟨p,xs,z1,z2⟩
  | .no,_ => exact h.elim
  | .val _,_ => exact h.elim
  | .bor _,_ => exact h.elim
  | .slf _ _,_ => exact h.elim
def dApp (i:Nat) (G:DG):DG:=fun δ Q => isOwn δ.vs[i]? ∧ G δ fun d δ1 => ∃ ds,δ1.vs[i]? = some (.own ds) ∧ ds.length < sizeLine ∧ Q .non ⟨δ1.vs.set i (.own (ds ++ [d])),δ1.S⟩
theorem t_app {K:PySem.W.Frag} {i:Nat}:∀ σ H Q,tD K (dApp i G) σ H Q → tBM K "list" rAppend (tVar i) (tCons (tD K G) tNil) σ H Q:=by
 rintro σ H Q ⟨en,F,R,W,δ,Kt,r0,⟨l,g0⟩,k⟩
 obtain ⟨p,xs,hv,hp⟩:=r0.ownAt l
 refine ⟨_,hv,.inl ⟨rfl,_,SqL.of hp⟩,en,F,R,W,δ,_,r0,g0,?_⟩
 rintro d δ1 F1 R1 W1 H1 v ⟨ds,h1,h2,kd⟩ s1 u1 r1 x1
 obtain ⟨p',ys,z1,z2,z3,z4⟩:=r1.putOwn (es:=ds ++ [d]) h1
 rw [hv] at z1
 obtain rfl:p = p':=by simpa using z1
 exact ⟨p,ys,v,rfl,rfl,z2,by rw [z3.length]; exact h2,k _ _ _ _ _ _ _ kd s1 u1 (z4 _ (z3.append (.cons x1 .nil))) .non⟩
def dIns (i:Nat) (Ga Gb:DG):DG:=fun δ Q => isOwn δ.vs[i]? ∧ Ga δ fun x δ1 => Gb δ1 fun d δ2 => ∃ ds j,δ2.vs[i]? = some (.own ds) ∧ x = .int j ∧ 0 ≤ j ∧ j < 2 ^ 63 ∧ ds.length < sizeLine ∧ Q .non ⟨δ2.vs.set i (.own (ds.take j.toNat ++ [d] ++ ds.drop j.toNat)),δ2.S⟩
def rInsert:V → List V → Hp → VK → Prop:=fun x vs H Q => ∃ (l:Addr) (xs:List V) (i:Int) (y:V),x = .ref l ∧ vs = [.int i,y] ∧ H l = some (.lst xs) ∧ xs.length < sizeLine ∧ 0 ≤ i ∧ i < 2 ^ 63 ∧ Q .non (upd H l (.lst (xs.take i.toNat ++ [y] ++ xs.drop i.toNat)))
theorem t_ins {K:PySem.W.Frag} {i:Nat}:∀ σ H Q,tD K (dIns i Ga Gb) σ H Q → tBM K "list" rInsert (tVar i) (tCons (tD K Ga) (tCons (tD K Gb) tNil)) σ H Q:=by
 rintro σ H Q ⟨en,F,R,W,δ,Kt,r0,⟨l,g0⟩,k⟩
 obtain ⟨p,xs,hv,hp⟩:=r0.ownAt l
 refine ⟨_,hv,.inl ⟨rfl,_,SqL.of hp⟩,en,F,R,W,δ,_,r0,g0,?_⟩
 intro x δ1 F1 R1 W1 H1 v1 g1 s1 u1 r1 x1
 refine ⟨en,F1,R1,W1,δ1,_,r1,g1,?_⟩
 rintro d δ2 F2 R2 W2 H2 v ⟨ds,j,h1,rfl,h2,h3,h4,kd⟩ s2 u2 r2 x2
 cases x1
 obtain ⟨p',ys,z1,z2,z3,z4⟩:=r2.putOwn (es:=ds.take j.toNat ++ [d] ++ ds.drop j.toNat) h1
 rw [hv] at z1
 obtain rfl:p = p':=by simpa using z1
 exact ⟨p,ys,j,v,rfl,rfl,z2,by rw [z3.length]; exact h4,h2,h3,k _ _ _ _ _ _ _ kd (sT s1 s2) (u1.trans u2) (z4 _ (((z3.take _).append (.cons x2 .nil)).append (z3.drop _))) .non⟩
def dPop (i:Nat) (G:DG):DG:=fun δ Q => isOwn δ.vs[i]? ∧ G δ fun x δ1 => ∃ ds j n d,δ1.vs[i]? = some (.own ds) ∧ x = .int j ∧ -(2 ^ 63) ≤ j ∧ j < 2 ^ 63 ∧ seqIndex? j ds.length = some n ∧ ds[n]? = some d ∧ Q d ⟨δ1.vs.set i (.own (ds.eraseIdx n)),δ1.S⟩
def dPop0 (i:Nat):DG:=fun δ Q => ∃ ds d,δ.vs[i]? = some (.own ds) ∧ ds[ds.length - 1]? = some d ∧ Q d ⟨δ.vs.set i (.own ds.dropLast),δ.S⟩
theorem RepAll.dropLast {K:PySem.W.Frag} {F:Hp} {R:List Addr} {v:List V} {d:List D} (h:RepAll K F R v d):RepAll K F R v.dropLast d.dropLast:=by
 rw [List.dropLast_eq_take,List.dropLast_eq_take,h.length]; exact h.take _
def dExt (i:Nat) (G:DG):DG:=fun δ Q => isOwn δ.vs[i]? ∧ G δ fun x δ1 => ∃ ds es,δ1.vs[i]? = some (.own ds) ∧ x = .lst es ∧ ds.length + es.length ≤ sizeLine ∧ Q .non ⟨δ1.vs.set i (.own (ds ++ es)),δ1.S⟩
end
end
section
section
variable {X:Cx} {tg:Expr}
def iStay (K:PySem.W.Frag) (tl:TE):TI:=fun σ H R => tl σ H fun x H1 => ∃ a xs,x = .ref a ∧ ((SqL K H1 a xs ∧ ∀ (J:It) (G:Hp → Prop),(∀ H',SqL K H' a xs → G H') → Walk J xs.length G (YAt xs) → R J H1) ∨ (SqT K H1 a xs ∧ ∀ (J:It) (G:Hp → Prop),(∀ H',SqT K H' a xs → G H') → Walk J xs.length G (YAt xs) → R J H1))
theorem sqL_kept {K:PySem.W.Frag} {H H':Hp} {a:Addr} {xs:List V} (k:∀ o,H a = some o → H' a = some o) (h:SqL K H a xs):SqL K H' a xs:=h.elim (fun z => .inl (rd_imp k z)) .inr
theorem sqT_kept {K:PySem.W.Frag} {H H':Hp} {a:Addr} {xs:List V} (k:∀ o,H a = some o → H' a = some o) (h:SqT K H a xs):SqT K H' a xs:=h.elim (fun z => .inl (rd_imp k z)) .inr
theorem pi_stay {l:Expr} {tl:TE} (hl:PE X l tl):PI X tg l (iStay X.K tl):=by
 refine ⟨fun pins s σ H R I h => ?_⟩
 refine thn (hl.run pins s σ H _ I h) fun v s1 ⟨x,H1,I1,r1,q1⟩ => ?_
 obtain ⟨a,xs,e,hq⟩:=q1
 subst e
 cases r1
 rcases hq with ⟨hq,q⟩ | ⟨hq,q⟩
 ·obtain ⟨its,rv,p,hz⟩:=I1.list hq
  refine wpAny_pyIter_list p.isList ?_
  refine ⟨s1.heap.objs.size,[s1.heap.objs.size],_,_,H1,rfl,I1.kept (t':=s1.toks) fun b o e => Heap.get?_push_of_some _ e,turn_list a _,⟨_,Heap.get?_push_size _ rfl,rfl,rfl⟩,fun b hb => ?_,q _ _ (fun H' k => k) walk_list⟩
  have e:b = s1.heap.objs.size:=by simpa using hb
  subst e
  exact I1.fpOk (Nat.le_refl _) (I1.hok.fresh (Nat.le_refl _))
 ·obtain ⟨its,rv,p,hz⟩:=I1.tuple hq
  refine wpAny_pyIter_tuple (show s1.heap.IsTuple a its.toArray from p) ?_
  refine ⟨s1.heap.objs.size,[s1.heap.objs.size],_,_,H1,rfl,I1.kept (t':=s1.toks) fun b o e => Heap.get?_push_of_some _ e,turn_tuple a _,⟨_,Heap.get?_push_size _ rfl,rfl,rfl⟩,fun b hb => ?_,q _ _ (fun H' k => k) walk_tup⟩
  have e:b = s1.heap.objs.size:=by simpa using hb
  subst e
  exact I1.fpOk (Nat.le_refl _) (I1.hok.fresh (Nat.le_refl _))
end
section
variable {X:Cx} {e a b o tg:Expr} {es:List Expr} {pos:Pos} {G Ga Gb Gc:DG} {Gn Gm:DN} {Gr:DAr}
def tBo (K:PySem.W.Frag) (G:DN):TE:=fun σ H Q => ∃ en F R W δ Kt,Rel K en F R W δ σ H ∧ G δ Kt ∧ ∀ ds δ' F' R' W' H' a xs,Kt ds δ' → Same F F' → Sub R R' → Rel K en F' R' W' δ' σ H' → Bor K W' H' a xs → RepAll K F' R' xs ds → Q (.ref a) H'
def BE (X:Cx) (e:Expr) (G:DN):Prop:=PE X e (tBo X.K G)
theorem Rep.bor {K:PySem.W.Frag} {en:En} {F:Hp} {R:List Addr} {W:Own} {δ:DS} {σ:L2.St} {H:Hp} {v:V} {d:D} {ds:List D} (h:Rep K F R v d) (r:Rel K en F R W δ σ H) (e:seqD d = some ds):∃ a xs,v = .ref a ∧ Bor K W H a xs ∧ RepAll K F R xs ds:=by
 obtain ⟨a,xs,rfl,h1,h2⟩:=h.seq e
 refine ⟨a,xs,rfl,?_,h2⟩
 have k:∀ u,Rd F a u → W a = none ∧ Rd H a u:=fun u z => ⟨by rcases z with z | ⟨o,z⟩ <;> exact r.fw _ _ z,same_rd r.fh z⟩
 rcases h1 with (z | z) | (z | z)
 ·exact .inl ⟨(k _ z).1,.inl (k _ z).2⟩
 ·exact .inr (.inl (.inr z))
 ·exact .inl ⟨(k _ z).1,.inr (k _ z).2⟩
 ·exact .inr (.inr (.inr z))
theorem b_d (h:DE X e G):BE X e (sqOf G):=pe_of h fun σ H Q ⟨en,F,R,W,δ,Kt,r0,g0,k⟩ => by
 refine ⟨en,F,R,W,δ,_,r0,g0,?_⟩
 rintro d δ1 F1 R1 W1 H1 v ⟨ds,e,kd⟩ s1 u1 r1 x1
 obtain ⟨a,xs,rfl,h1,h2⟩:=x1.bor r1 e
 exact k _ δ1 F1 R1 W1 H1 a xs kd s1 u1 r1 h1 h2
def borSeq:Option Sl → Option (List D)
 | some (.bor ds) => some ds
 | some (.val d) => seqD d
 | _ => none
theorem Rel.bor {K:PySem.W.Frag} {en:En} {F:Hp} {R:List Addr} {W:Own} {δ:DS} {σ:L2.St} {H:Hp} {i:Nat} {ds:List D} (r:Rel K en F R W δ σ H) (e:borSeq δ.vs[i]? = some ds):∃ a xs,σ[i]? = some (some (.ref a)) ∧ Bor K W H a xs ∧ RepAll K F R xs ds:=by
 cases q:δ.vs[i]? with
 | none => rw [q] at e; cases e
 | some s =>
  rw [q] at e
  have hs:=r.sl i s q
  match s,e,hs with
  | .bor es,e,⟨a,xs,h1,h2,h4⟩ => obtain rfl:=Option.some.inj e; exact ⟨a,xs,h1,h2,h4⟩
  | .val d,e,⟨v,h1,h2⟩ =>
   obtain ⟨a,xs,rfl,z1,z2⟩:=h2.bor r e
   exact ⟨a,xs,h1,z1,z2⟩
def bSl (i:Nat):DN:=fun δ Q => ∃ ds,borSeq δ.vs[i]? = some ds ∧ Q ds δ
theorem b_s {i:Nat} (h:PE X e (tVar i)):BE X e (bSl i):=pe_of h fun σ H Q ⟨en,F,R,W,δ,Kt,r0,⟨ds,e,g0⟩,k⟩ => by
 obtain ⟨a,xs,h1,h2,h3⟩:=r0.bor e
 exact ⟨_,h1,k _ _ _ _ _ _ _ _ g0 (fun _ _ e => e) (Sub.refl _) r0 h2 h3⟩
abbrev DIg:=DS → (List D → DS → Prop) → Prop
def DIt (K:PySem.W.Frag) (F:Hp) (R:List Addr) (W:Own) (H:Hp) (J:It) (items:List D):Prop:=∃ (Gd:Hp → Prop) (Y:Nat → Hp → V → Hp → Prop),Walk J items.length Gd Y ∧ (∀ H2,(∀ a o,H a = some o → W a = none → H2 a = some o) → Gd H2) ∧
 ∀ i H1 x H2 F1 R1 d,items[i]? = some d → Y i H1 x H2 → Same F F1 → Sub R R1 → (H2 = H1 ∧ Rep K F1 R1 x d) ∨ (∃ T o,H1 T = none ∧ H2 = upd H1 T o ∧ (F1 T = none → Rep K (upd F1 T o) R1 x d))
def tI (K:PySem.W.Frag) (G:DIg):TI:=fun σ H Rr => ∃ en F R W δ Kt,Rel K en F R W δ σ H ∧ G δ Kt ∧ ∀ ds δ' F' R' W' H' J,Kt ds δ' → Same F F' → Sub R R' → Rel K en F' R' W' δ' σ H' → DIt K F' R' W' H' J ds → Rr J H'
def DI (X:Cx) (tg e:Expr) (G:DIg):Prop:=PI X tg e (tI X.K G)
theorem pi_of {t t':TI} (h:PI X tg e t) (m:∀ σ H Q,t' σ H Q → t σ H Q):PI X tg e t':=⟨fun pins s σ H Q I q => h.run pins s σ H Q I (m σ H Q q)⟩
theorem i_b (hb:BE X e Gn):DI X tg e Gn:=pi_of (pi_stay hb) fun σ H Rr ⟨en,F,R,W,δ,Kt,r0,g0,k⟩ => by
 refine ⟨en,F,R,W,δ,_,r0,g0,?_⟩
 rintro ds δ1 F1 R1 W1 H1 p xs kd s1 u1 r1 hb x1
 have fin:∀ J,Walk J xs.length (fun H2 => ∀ a o,H1 a = some o → W1 a = none → H2 a = some o) (YAt xs) → Rr J H1:=fun J hw => by
  refine k _ _ _ _ _ _ J kd s1 u1 r1 ⟨_,YAt xs,by rw [← x1.length]; exact hw,fun H2 h => h,fun i Ha x Hb Fa Ra d hd hy sa ua => ?_⟩
  obtain ⟨rfl,hy⟩:=hy
  obtain ⟨d',z1,z2⟩:=x1.getV hy
  rw [hd] at z1
  obtain rfl:=Option.some.inj z1
  exact .inl ⟨rfl,z2.mono sa ua⟩
 rcases hb with ⟨hw0,hb | hb⟩ | hb | hb
 ·exact ⟨p,xs,rfl,.inl ⟨.inl hb,fun J Gd hG hw => fin J (hw.mono (fun H2 h2 => hG H2 (.inl (rd_imp (fun o z => h2 p o z hw0) hb))) fun _ _ _ _ _ _ y => y)⟩⟩
 ·exact ⟨p,xs,rfl,.inr ⟨.inl hb,fun J Gd hG hw => fin J (hw.mono (fun H2 h2 => hG H2 (.inl (rd_imp (fun o z => h2 p o z hw0) hb))) fun _ _ _ _ _ _ y => y)⟩⟩
 ·have hs:∀ H2,SqL X.K H2 p xs:=fun H2 => sqL_kept (H:=fun _ => none) (fun _ z => by cases z) hb
  exact ⟨p,xs,rfl,.inl ⟨hs _,fun J Gd hG hw => fin J (hw.mono (fun H2 h2 => hG H2 (hs _)) fun _ _ _ _ _ _ y => y)⟩⟩
 ·have hs:∀ H2,SqT X.K H2 p xs:=fun H2 => sqT_kept (H:=fun _ => none) (fun _ z => by cases z) hb
  exact ⟨p,xs,rfl,.inr ⟨hs _,fun J Gd hG hw => fin J (hw.mono (fun H2 h2 => hG H2 (hs _)) fun _ _ _ _ _ _ y => y)⟩⟩
def rngD (lo:Int) (n:Nat):List D:=(List.range n).map fun (i:Nat) => D.int (lo + (i:Int))
def iRng (Gr:DAr):DIg:=fun δ Q => Gr δ fun as δ' => ∃ j:Int,valsOf as = some [.int j] ∧ -(2 ^ 62) ≤ j ∧ j < 2 ^ 62 ∧ Q (rngD 0 j.toNat) δ'
def iRngB (Gr:DAr):DIg:=fun δ Q => Gr δ fun as δ' => ∃ i j:Int,valsOf as = some [.int i,.int j] ∧ (-(2 ^ 62) ≤ i ∧ i < 2 ^ 62 ∧ -(2 ^ 62) ≤ j ∧ j < 2 ^ 62) ∧ Q (rngD i (j - i).toNat) δ'
theorem rng_it {K:PySem.W.Frag} {F:Hp} {R:List Addr} {W:Own} {H:Hp} (lo:Int) (n:Nat):DIt K F R W H (Itr lo n) (rngD lo n):=by
 refine ⟨fun _ => True,YFn fun i => .int (lo + i),by have:=walk_range (lo:=lo) (n:=n); rwa [show (rngD lo n).length = n by simp [rngD]],fun _ _ => trivial,fun i Ha x Hb Fa Ra d hd hy sa ua => ?_⟩
 obtain ⟨rfl,rfl⟩:=hy
 simp only [rngD,List.getElem?_map,Option.map_eq_some_iff] at hd
 obtain ⟨j,hj,rfl⟩:=hd
 have:j = i:=by
  rw [List.getElem?_eq_some_iff] at hj
  obtain ⟨_,hj⟩:=hj
  simpa using hj.symm
 subst this
 exact .inl ⟨rfl,.int _⟩
theorem i_rng {p:Pos} (hg:Gl X "range") (hm:X.mg "range" = none) (ha:DA X [a] Gr) (hs:starEach [a] X.env = [(false,eval a X.env)]:=by rfl):DI X tg (.Call (.Name "range" p) [a] [] pos) (iRng Gr):=pi_of (pi_range1 hg hm ha hs) fun σ H Rr ⟨en,F,R,W,δ,Kt,r0,g0,k⟩ => by
 refine ⟨en,F,R,W,δ,_,r0,g0,?_⟩
 rintro as δ1 F1 R1 W1 H1 vs ⟨j,hv,h1,h2,kd⟩ s1 u1 r1 x1
 have:=x1.vals hv
 cases this with
 | cons q1 q2 =>
  cases q1
  cases q2
  exact ⟨j,rfl,h1,h2,k _ _ _ _ _ _ _ kd s1 u1 r1 (rng_it 0 j.toNat)⟩
def signsD (z:Str):List D:=z.cps.toList.map fun c => .str ⟨#[c]⟩
def iTxt (G:DG):DIg:=fun δ Q => G δ fun d δ' => ∃ z,d = .str z ∧ Q (signsD z) δ'
def arSeq (δ:DS):Ar → Option (List D)
 | .val d => seqD d
 | .bv d => seqD d
 | .slot k => borSeq δ.vs[k]?
def arSeqs (δ:DS):List Ar → Option (List (List D))
 | [] => some []
 | a :: r => match arSeq δ a,arSeqs δ r with
  | some x,some y => some (x :: y)
  | _,_ => none
inductive Bors (K:PySem.W.Frag) (F:Hp) (R:List Addr) (W:Own) (H:Hp):List V → List (List V) → List (List D) → Prop
 | nil:Bors K F R W H [] [] []
 | cons {a:Addr} {xs:List V} {ds:List D} {vs:List V} {xss:List (List V)} {dss:List (List D)}:Bor K W H a xs → RepAll K F R xs ds → Bors K F R W H vs xss dss → Bors K F R W H (.ref a :: vs) (xs :: xss) (ds :: dss)
theorem arBors {K:PySem.W.Frag} {en:En} {F:Hp} {R:List Addr} {W:Own} {δ:DS} {σ:L2.St} {H:Hp} (r:Rel K en F R W δ σ H):∀ {vs:List V} {as:List Ar} {dss:List (List D)},ArAll K F R σ vs as → arSeqs δ as = some dss → ∃ xss,Bors K F R W H vs xss dss
 | _,_,_,.nil,e => by simp [arSeqs] at e; subst e; exact ⟨_,.nil⟩
 | _,a :: as,dss,.cons (v:=v) h t,e => by
  simp only [arSeqs] at e
  cases q:arSeq δ a with
  | none => rw [q] at e; cases e
  | some x =>
   cases q2:arSeqs δ as with
   | none => rw [q,q2] at e; cases e
   | some y =>
    rw [q,q2] at e
    obtain rfl:=Option.some.inj e
    obtain ⟨xss,hx⟩:=arBors r t q2
    have:∃ p xs,v = .ref p ∧ Bor K W H p xs ∧ RepAll K F R xs x:=by
     match a,h,q with
     | .val d,h,q => exact Rep.bor h r q
     | .bv d,h,q => exact Rep.bor h r q
     | .slot k,h,q =>
      obtain ⟨p,xs,z1,z2,z3⟩:=r.bor q
      have h':σ[k]? = some (some v):=h
      rw [h'] at z1
      exact ⟨p,xs,by simpa using z1,z2,z3⟩
    obtain ⟨p,xs,rfl,z1,z2⟩:=this
    exact ⟨_,.cons z1 z2 hx⟩
theorem Bor.sqB {K:PySem.W.Frag} {W:Own} {H:Hp} {a:Addr} {xs:List V} (h:Bor K W H a xs):∃ t,∀ H2,(∀ a o,H a = some o → W a = none → H2 a = some o) → GZ.SqB K H2 (a,t) xs:=by
 rcases h with ⟨w,h | h⟩ | h | h
 ·exact ⟨false,fun H2 k => by simp only [GZ.SqB]; exact .inl (rd_imp (fun o z => k a o z w) h)⟩
 ·exact ⟨true,fun H2 k => by simp only [GZ.SqB,if_true]; exact .inl (rd_imp (fun o z => k a o z w) h)⟩
 ·exact ⟨false,fun H2 k => by simp only [GZ.SqB]; exact sqL_kept (H:=fun _ => none) (fun _ z => by cases z) h⟩
 ·exact ⟨true,fun H2 k => by simp only [GZ.SqB,if_true]; exact sqT_kept (H:=fun _ => none) (fun _ z => by cases z) h⟩
theorem Bors.rows {K:PySem.W.Frag} {F:Hp} {R:List Addr} {W:Own} {H:Hp}:∀ {vs:List V} {xss:List (List V)} {dss:List (List D)},Bors K F R W H vs xss dss → ∃ ps:List (Addr × Bool),vs = ps.map (fun p => V.ref p.1) ∧ ∀ H2,(∀ a o,H a = some o → W a = none → H2 a = some o) → GZ.Rows K H2 ps xss
 | _,_,_,.nil => ⟨[],rfl,fun _ _ => .nil⟩
 | _,_,_,.cons h1 h2 h3 => by
  obtain ⟨t,ht⟩:=h1.sqB
  obtain ⟨ps,rfl,hp⟩:=Bors.rows h3
  exact ⟨(_,t) :: ps,rfl,fun H2 k => .cons (ht H2 k) (hp H2 k)⟩
def zipN (dss:List (List D)) (n:Nat):List D:=(List.range n).map fun i => .tup (dss.map fun ds => ds.getD i .non)
def minLen:List (List D) → Nat
 | [] => 0
 | [x] => x.length
 | x :: y :: r => min x.length (minLen (y :: r))
theorem minLen_le:∀ {dss:List (List D)} {ds:List D},ds ∈ dss → minLen dss ≤ ds.length
 | [x],ds,h => by simp at h; subst h; exact Nat.le_refl _
 | x :: y :: r,ds,h => by
  rw [List.mem_cons] at h
  rcases h with rfl | h
  ·exact Nat.min_le_left ..
  ·exact Nat.le_trans (Nat.min_le_right ..) (minLen_le h)
theorem minLen_ex:∀ {dss:List (List D)},dss ≠ [] → ∃ ds ∈ dss,ds.length = minLen dss
 | [],h => absurd rfl h
 | [x],_ => ⟨x,by simp,rfl⟩
 | x :: y :: r,_ => by
  obtain ⟨ds,h1,h2⟩:=minLen_ex (dss:=y :: r) (by simp)
  by_cases h:x.length ≤ minLen (y :: r)
  ·exact ⟨x,by simp,by simp only [minLen]; omega⟩
  ·exact ⟨ds,List.mem_cons_of_mem _ h1,by simp only [minLen]; omega⟩
theorem Bors.lens {K:PySem.W.Frag} {F:Hp} {R:List Addr} {W:Own} {H:Hp}:∀ {vs:List V} {xss:List (List V)} {dss:List (List D)},Bors K F R W H vs xss dss → xss.map (·.length) = dss.map (·.length)
 | _,_,_,.nil => rfl
 | _,_,_,.cons h1 h2 h3 => by simp [h2.length,Bors.lens h3]
theorem Bors.count {K:PySem.W.Frag} {F:Hp} {R:List Addr} {W:Own} {H:Hp}:∀ {vs:List V} {xss:List (List V)} {dss:List (List D)},Bors K F R W H vs xss dss → vs.length = dss.length
 | _,_,_,.nil => rfl
 | _,_,_,.cons h1 h2 h3 => by simp [Bors.count h3]
theorem Bors.item {K:PySem.W.Frag} {F F1:Hp} {R R1:List Addr} {W:Own} {H:Hp} {i:Nat} (s:Same F F1) (u:Sub R R1):∀ {vs:List V} {xss:List (List V)} {dss:List (List D)} {us:List V},Bors K F R W H vs xss dss → us.map some = xss.map (·[i]?) → RepAll K F1 R1 us (dss.map fun ds => ds.getD i .non)
 | _,_,_,us,.nil,e => by
  have:us = []:=by simpa using e
  subst this; exact .nil
 | _,_,_,us,.cons h1 h2 h3,e => by
  cases us with
  | nil => simp at e
  | cons x us =>
   simp only [List.map_cons,List.cons.injEq] at e
   obtain ⟨d,z1,z2⟩:=h2.getV e.1.symm
   refine .cons ?_ (Bors.item s u h3 e.2)
   show Rep K F1 R1 x (List.getD _ i D.non)
   rw [List.getD_eq_getElem?_getD,z1]
   exact z2.mono s u
def iZp (m:Nat) (Gr:DAr):DIg:=fun δ Q => Gr δ fun as δ' => ∃ dss,arSeqs δ' as = some dss ∧ dss.length = m ∧ Q (zipN dss (minLen dss)) δ'
theorem t_zp {K:PySem.W.Frag} {m:Nat} (hm:0 < m):∀ σ H Q,tI K (iZp m Gr) σ H Q → GZ.iZipN m K (tAr K Gr) σ H Q:=by
 rintro σ H Rr ⟨en,F,R,W,δ,Kt,r0,g0,k⟩
 refine ⟨en,F,R,W,δ,_,r0,g0,?_⟩
 rintro as δ1 F1 R1 W1 H1 vs ⟨dss,hv,hl,kd⟩ s1 u1 r1 x1
 obtain ⟨xss,hb⟩:=arBors r1 x1 hv
 obtain ⟨ps,rfl,hp⟩:=hb.rows
 have e1:=hb.lens
 have e2:=hb.count
 have ne:dss ≠ []:=fun z => by subst z; simp at hl; omega
 have mem:∀ xs ∈ xss,minLen dss ≤ xs.length:=fun xs hx => by
  have:xs.length ∈ dss.map (·.length):=by rw [← e1]; exact List.mem_map_of_mem hx
  obtain ⟨ds,d1,d2⟩:=List.mem_map.mp this
  rw [← d2]; exact minLen_le d1
 have ex:∃ xs ∈ xss,xs.length = minLen dss:=by
  obtain ⟨ds,d1,d2⟩:=minLen_ex ne
  have:ds.length ∈ xss.map (·.length):=by rw [e1]; exact List.mem_map_of_mem d1
  obtain ⟨xs,x1,x2⟩:=List.mem_map.mp this
  exact ⟨xs,x1,by rw [x2,d2]⟩
 refine ⟨ps,xss,minLen dss,rfl,by rw [← hl,← e2]; simp,hp _ (fun _ _ z _ => z),mem,ex,fun J Gd hG hw => ?_⟩
 refine k _ _ _ _ _ _ J kd s1 u1 r1 ⟨Gd,_,by rwa [show (zipN dss (minLen dss)).length = minLen dss by simp [zipN]],fun H2 h => hG H2 (hp H2 h),fun i Ha x Hb Fa Ra d hd hy sa ua => ?_⟩
 obtain ⟨T,us,rfl,hT,rfl,hu⟩:=hy
 simp only [zipN,List.getElem?_map,Option.map_eq_some_iff] at hd
 obtain ⟨j,hj,rfl⟩:=hd
 have:j = i:=by
  rw [List.getElem?_eq_some_iff] at hj
  obtain ⟨_,hj⟩:=hj
  simpa using hj.symm
 subst this
 exact .inr ⟨T,_,hT,rfl,fun fT => .tup sqT_new ((hb.item sa ua hu).mono (Same.new fT) (Sub.refl _))⟩
theorem i_zip2 {e2:Expr} {p tpos:Pos} {elts:List Expr} {kk:Nat} (hg:Gl X "zip") (hm:X.mg "zip" = none) (ha:DA X [e,e2] Gr)
  (hst:starEach [e,e2] X.env = (false,eval e X.env) :: starEach [e2] X.env:=by rfl) (hp:(backTo pos (starEach [e2] X.env)).any (·.1) = false:=by rfl) :
  DI X (.Tuple elts kk tpos) (.Call (.Name "zip" p) [e,e2] [] pos) (iZp 2 Gr):=pi_of (GZ.pi_zip2 hg hm ha hst hp) (t_zp (by decide))
def ForGo (g:DTg) (B:DSt) (DD:DEnds) (items:List D) (δ1:DS):Prop:=∃ I:Nat → DS → Prop,I 0 δ1 ∧ (∀ (i:Nat) (d:D) (δ:DS),items[i]? = some d → I i δ → g d δ fun δ2 => B { DD with nx:=I (i + 1),ct:=I (i + 1),bk:=DD.nx } δ2) ∧ ∀ δ,I items.length δ → DD.nx δ
def dFor (Gi:DIg) (g:DTg) (B:DSt):DSt:=fun DD δ => Gi δ fun items δ1 => ForGo g B DD items δ1
theorem s_for {body:List Stmt} {Gi:DIg} {is:List Nat} {g:DTg} {B:DSt} (hp:PassesOwn (model X.prog X.w) X.A X.env X.xe) (hc:X.calm = true) (hi:DI X tg e Gi) (hg:DPg X tg is g) (hb:DSts X body B)
  (hs:∀ x,foldedSetIterable e X.env x = pure x:=by intro _; rfl):DStm X (.For tg e body [] pos) (dFor Gi g B):=ps_of (ps_for hp hc hi hg hb hs) fun D σ H ⟨en,F,R,W,δ,DD,r0,g0,k,k1,k2,k3⟩ => by
 refine ⟨en,F,R,W,δ,_,r0,g0,?_⟩
 rintro items δ1 F1 R1 W1 H1 J ⟨I,g1,gs,ge⟩ s1 u1 r1 ⟨Gd,Y,hw,hG,hY⟩
 refine for_it hw (fun i σ' H' => ∃ F' R' W' δ',Same F1 F' ∧ Sub R1 R' ∧ Rel X.K (base F1 R1 W1 H1) F' R' W' δ' σ' H' ∧ I i δ') ⟨F1,R1,W1,δ1,fun _ _ e => e,Sub.refl _,r1.rebase,g1⟩ ?_ ?_ ?_
 ·rintro i σ' H' _ ⟨F',R',W',δ',s',u',r',_⟩
  exact hG H' fun a o q w => r'.kp a o q fun ⟨w',z,_⟩ => by rw [w] at z; cases z
 ·rintro i x σ' H' H2 hi ⟨F',R',W',δ',s',u',r',l'⟩ hy
  have hd:items[i]? = some items[i]:=List.getElem?_eq_getElem hi
  have:∃ F2,Same F' F2 ∧ Rel X.K (base F1 R1 W1 H1) F2 R' W' δ' σ' H2 ∧ Rep X.K F2 R' x items[i]:=by
   rcases hY i H' x H2 F' R' _ hd hy s' u' with ⟨rfl,q⟩ | ⟨T,o,hT,rfl,q⟩
   ·exact ⟨F',fun _ _ e => e,r',q⟩
   ·obtain ⟨r2,s2⟩:=r'.newF (o:=o) hT
    exact ⟨_,s2,r2,q (r'.fNone hT)⟩
  obtain ⟨F2,s2,r2,q2⟩:=this
  refine ⟨_,F2,R',W',δ',_,_,r2,q2,gs i _ δ' hd l',?_⟩
  intro δ3 F3 R3 W3 σ3 H3 g3 s3 u3 r3 _ _
  have sA:Same F1 F3:=sT s' (sT s2 s3)
  have uA:Sub R1 R3:=u'.trans u3
  refine ⟨_,F3,R3,W3,δ3,_,r3,g3,?_,?_,?_,?_⟩
  ·intro δ4 F4 R4 W4 σ4 H4 g4 s4 u4 r4
   exact ⟨F4,R4,W4,δ4,sT sA s4,uA.trans u4,r4,g4⟩
  ·intro d δ4 F4 R4 W4 σ4 H4 v g4 s4 u4 r4 v4
   exact k1 _ _ _ _ _ _ _ _ g4 (sT s1 (sT sA s4)) (u1.trans (uA.trans u4)) (r1.trans r4) v4
  ·intro δ4 F4 R4 W4 σ4 H4 g4 s4 u4 r4
   exact k _ _ _ _ _ _ g4 (sT s1 (sT sA s4)) (u1.trans (uA.trans u4)) (r1.trans r4)
  ·intro δ4 F4 R4 W4 σ4 H4 g4 s4 u4 r4
   exact ⟨F4,R4,W4,δ4,sT sA s4,uA.trans u4,r4,g4⟩
 ·rintro σ' H' ⟨F',R',W',δ',s',u',r',l'⟩
  exact k _ _ _ _ _ _ (ge _ l') (sT s1 s') (u1.trans u') (r1.trans r')
def dWhile (A:DB) (B:DSt):DSt:=fun DD δ => ∃ Wm:Nat → DS → Prop,(∃ m,Wm m δ) ∧ ∀ m δ,Wm m δ → A δ fun b δ1 => if b = true then ∃ N:DS → Prop,(∀ δ',N δ' → ∃ m',m' < m ∧ Wm m' δ') ∧ B { DD with nx:=N,ct:=N,bk:=DD.nx } δ1 else DD.nx δ1
theorem s_while {A:DB} {B:DSt} {body:List Stmt} (hp:PassesOwn (model X.prog X.w) X.A X.env X.xe) (hc:DT X e A) (hb:DSts X body B):DStm X (.While e body [] pos) (dWhile A B):=ps_of (ps_while hp hc hb) fun D σ H ⟨en,F,R,W,δ,DD,r0,⟨Wm,⟨m0,w0⟩,turn⟩,k,k1,k2,k3⟩ => by
 refine ⟨fun m σ' H' => ∃ F' R' W' δ',Same F F' ∧ Sub R R' ∧ Rel X.K en F' R' W' δ' σ' H' ∧ Wm m δ',⟨m0,F,R,W,δ,fun _ _ e => e,Sub.refl _,r0,w0⟩,?_⟩
 rintro m σ' H' ⟨F1,R1,W1,δ1,s1,u1,r1,w1⟩
 refine ⟨en,F1,R1,W1,δ1,_,r1,turn m δ1 w1,?_⟩
 intro b δ2 F2 R2 W2 H2 g2 s2 u2 r2
 cases b with
 | false => exact k _ _ _ _ _ _ g2 (sT s1 s2) (u1.trans u2) r2
 | true =>
  obtain ⟨N,hN,g3⟩:=g2
  refine ⟨fun σ' H' => ∃ F' R' W' δ',Same F F' ∧ Sub R R' ∧ Rel X.K en F' R' W' δ' σ' H' ∧ N δ',?_,?_⟩
  ·rintro σ' H' ⟨F3,R3,W3,δ3,s3,u3,r3,n3⟩
   obtain ⟨m',hm,w3⟩:=hN δ3 n3
   exact ⟨m',hm,F3,R3,W3,δ3,s3,u3,r3,w3⟩
  ·refine ⟨en,F2,R2,W2,δ2,_,r2,g3,?_,?_,?_,?_⟩
   ·intro δ4 F4 R4 W4 σ4 H4 g4 s4 u4 r4
    exact ⟨F4,R4,W4,δ4,sT s1 (sT s2 s4),u1.trans (u2.trans u4),r4,g4⟩
   ·intro d δ4 F4 R4 W4 σ4 H4 v g4 s4 u4 r4 v4
    exact k1 _ _ _ _ _ _ _ _ g4 (sT s1 (sT s2 s4)) (u1.trans (u2.trans u4)) r4 v4
   ·intro δ4 F4 R4 W4 σ4 H4 g4 s4 u4 r4
    exact k _ _ _ _ _ _ g4 (sT s1 (sT s2 s4)) (u1.trans (u2.trans u4)) r4
   ·intro δ4 F4 R4 W4 σ4 H4 g4 s4 u4 r4
    exact ⟨F4,R4,W4,δ4,sT s1 (sT s2 s4),u1.trans (u2.trans u4),r4,g4⟩
def wipeD (vs:List Sl):List Nat → List Sl
 | [] => vs
 | i :: is => (wipeD vs is).set i .no
theorem wipeD_length (vs:List Sl):∀ is,(wipeD vs is).length = vs.length
 | [] => rfl
 | i :: is => by simp [wipeD,wipeD_length vs is]
theorem wipeD_get {vs:List Sl} {j:Nat} {s:Sl}:∀ {is:List Nat},(wipeD vs is)[j]? = some s → s = .no ∨ (vs[j]? = some s ∧ j ∉ is)
 | [],h => .inr ⟨h,by simp⟩
 | i :: is,h => by
  unfold wipeD at h
  by_cases e:i = j
  ·subst e
   rw [List.getElem?_set] at h
   split at h
   ·split at h
    ·exact .inl (Option.some.inj h).symm
    ·cases h
   ·rename_i n; exact absurd rfl n
  ·rw [List.getElem?_set_ne e] at h
   rcases wipeD_get h with h | ⟨h1,h2⟩
   ·exact .inl h
   ·exact .inr ⟨h1,by simp only [List.mem_cons,not_or]; exact ⟨fun z => e z.symm,h2⟩⟩
theorem wipe_get {σ:L2.St} {j:Nat}:∀ {is:List Nat},j ∉ is → (wipe σ is)[j]? = σ[j]?
 | [],_ => rfl
 | i :: is,h => by
  rw [List.mem_cons,not_or] at h
  unfold wipe
  rw [List.getElem?_set_ne (fun z => h.1 z.symm)]
  exact wipe_get h.2
theorem Rel.wipe {K:PySem.W.Frag} {en:En} {F:Hp} {R:List Addr} {W:Own} {δ:DS} {σ:L2.St} {H:Hp} (r:Rel K en F R W δ σ H) (is:List Nat):Rel K en F R W ⟨wipeD δ.vs is,δ.S⟩ (wipe σ is) H:=by
 refine r.slots (by rw [wipeD_length,wipe_length,r.ln]) fun j s e => ?_
 rcases wipeD_get e with rfl | ⟨h1,h2⟩
 ·trivial
 ·exact (r.sl j s h1).at fun v q => by rw [wipe_get h2]; exact q
theorem Rel.unwipe {K:PySem.W.Frag} {en:En} {F:Hp} {R:List Addr} {W:Own} {δ:DS} {σ σ2:L2.St} {H:Hp} {is:List Nat} (r:Rel K en F R W δ σ2 H) (h:L2.wipe σ2 is = L2.wipe σ is):Rel K en F R W ⟨wipeD δ.vs is,δ.S⟩ σ H:=by
 have l:σ2.length = σ.length:=by rw [← wipe_length σ2 is,h,wipe_length]
 refine r.slots (by rw [wipeD_length,r.ln,l]) fun j s e => ?_
 rcases wipeD_get e with rfl | ⟨h1,h2⟩
 ·trivial
 ·exact (r.sl j s h1).at fun v q => by rw [← wipe_get h2,← h,wipe_get h2]; exact q
theorem wipe_ext {σ σ2:L2.St} {is:List Nat} (l:σ2.length = σ.length) (h:∀ j:Nat,j ∉ is → σ2[j]? = σ[j]?):wipe σ2 is = wipe σ is:=by
 refine List.ext_getElem? fun j => ?_
 by_cases hj:j ∈ is
 ·have none_at:∀ {τ:L2.St} {is:List Nat},j ∈ is → (wipe τ is)[j]? = if j < τ.length then some none else none:=by
   intro τ is
   induction is with
   | nil => intro h; cases h
   | cons i is ih =>
    intro h
    unfold wipe
    by_cases e:i = j
    ·subst e
     rw [List.getElem?_set]
     simp [wipe_length]
    ·rw [List.getElem?_set_ne e]
     exact ih ((List.mem_cons.mp h).resolve_left fun z => e z.symm)
  rw [none_at hj,none_at hj,l]
 ·rw [wipe_get hj,wipe_get hj,h j hj]
theorem wipe_wipe {σ:L2.St} {is:List Nat}:wipe (wipe σ is) is = wipe σ is:=wipe_ext (wipe_length σ is) fun j hj => wipe_get hj
def LcGo (is:List Nat) (g:DTg) (T:DB) (Ge:DG) (Q:List D → DS → Prop) (items:List D) (δ1:DS):Prop:=∃ I:Nat → List D → DS → Prop,I 0 [] δ1 ∧
 (∀ (i:Nat) (d:D) (acc:List D) (δ:DS),items[i]? = some d → I i acc δ → g d ⟨wipeD δ.vs is,δ.S⟩ fun δ2 => T δ2 fun b δ3 => if b = true then Ge δ3 fun y δ4 => acc.length < sizeLine ∧ I (i + 1) (acc ++ [y]) δ4 else I (i + 1) acc δ3) ∧ ∀ acc δ,I items.length acc δ → Q acc ⟨wipeD δ.vs is,δ.S⟩
def nLc (is:List Nat) (Gi:DIg) (g:DTg) (T:DB) (Ge:DG):DN:=fun δ Q => Gi δ fun items δ1 => LcGo is g T Ge Q items δ1
def dYes:DB:=fun δ Q => Q true δ
theorem t_lc {K:PySem.W.Frag} {is js:List Nat} {Gi:DIg} {g:DTg} {T:DB} {Ge:DG} (hj:∀ j ∈ js,j ∈ is):∀ σ H Q,tNw K (nLc is Gi g T Ge) σ H Q → tLc (tI K Gi) (tG K js g) (tB K T) (tD K Ge) is σ H Q:=by
 rintro σ H Q ⟨en,F,R,W,δ,Kt,r0,g0,k⟩
 refine ⟨en,F,R,W,δ,_,r0,g0,?_⟩
 rintro items δ1 F1 R1 W1 H1 J ⟨I,g1,gs,ge⟩ s1 u1 r1 ⟨Gd,Y,hw,hG,hY⟩ p hp
 refine lc_it hw (fun i H' => ∃ F' R' W' δ' acc xs σ',Same F1 F' ∧ Sub R1 R' ∧ wipe σ' is = wipe σ is ∧ Rel K (base F1 R1 W1 H1) F' R' W' δ' σ' H' ∧ H' p = some (.lst xs) ∧ W' p = some .tmp ∧ F' p = none ∧ RepAll K F' R' xs acc ∧ I i acc δ')
  ⟨F1,R1,_,δ1,[],[],σ,fun _ _ e => e,Sub.refl _,rfl,r1.rebase.newT hp,upd_same,setW_same,r1.fNone hp,.nil,g1⟩ ?_ ?_ ?_
 ·rintro i H' _ ⟨F',R',W',δ',acc,xs,σ',s',u',e',r',_⟩
  exact hG H' fun a o q w => r'.kp a o q fun ⟨w',z,_⟩ => by rw [w] at z; cases z
 ·rintro i x H' H2 hi ⟨F',R',W',δ',acc,xs,σ',s',u',e',r',p1,p2,p3,p4,l'⟩ hy
  have hd:items[i]? = some items[i]:=List.getElem?_eq_getElem hi
  have hp0:(base F1 R1 W1 H1).H0 p = none:=hp
  have r'':Rel K (base F1 R1 W1 H1) F' R' W' ⟨wipeD δ'.vs is,δ'.S⟩ (wipe σ is) H':=by
   have:=r'.wipe is
   rwa [e'] at this
  have:∃ F2,Same F' F2 ∧ Rel K (base F1 R1 W1 H1) F2 R' W' ⟨wipeD δ'.vs is,δ'.S⟩ (wipe σ is) H2 ∧ Rep K F2 R' x items[i] ∧ H2 p = some (.lst xs) ∧ F2 p = none:=by
   rcases hY i H' x H2 F' R' _ hd hy s' u' with ⟨rfl,q⟩ | ⟨T,o,hT,rfl,q⟩
   ·exact ⟨F',fun _ _ e => e,r'',q,p1,p3⟩
   ·obtain ⟨r2,s2⟩:=r''.newF (o:=o) hT
    have ne:p ≠ T:=ne_of_none p1 hT
    exact ⟨_,s2,r2,q (r'.fNone hT),by rw [upd_ne ne]; exact p1,by rw [upd_ne ne]; exact p3⟩
  obtain ⟨F2,s2,r2,q2,p1',p3'⟩:=this
  refine ⟨base F2 R' W' H2,F2,R',W',_,_,_,r2.rebase,q2,gs i _ acc δ' hd l',?_⟩
  intro δ3 F3 R3 W3 σ3 H3 g3 s3 u3 r3 l3 n3
  have ew:wipe σ3 is = wipe σ is:=by
   rw [← wipe_wipe (σ:=σ)]
   exact wipe_ext l3 fun j h => n3 j fun z => h (hj j z)
  refine ⟨ew,_,F3,R3,W3,δ3,_,r3,g3,?_⟩
  intro b δ4 F4 R4 W4 H4 g4 s4 u4 r4
  have still:∀ {F5:Hp} {R5:List Addr} {W5:Own} {δ5:DS} {σ5:L2.St} {H5:Hp},Rel K (base F2 R' W' H2) F5 R5 W5 δ5 σ5 H5 → H5 p = some (.lst xs) ∧ W5 p = some .tmp ∧ F5 p = none:=fun {F5 R5 W5 δ5 σ5 H5} r5 => by
   have nx:¬ (base F2 R' W' H2).X0 p:=fun ⟨w,z,y⟩ => by rw [p2] at z; exact y (Option.some.inj z).symm
   refine ⟨r5.kp p _ p1' nx,r5.tp p p2,?_⟩
   cases q:F5 p with
   | none => rfl
   | some u =>
    rcases r5.fn p u q with ⟨z,y⟩ | y | y
    ·rw [show (base F2 R' W' H2).F0 p = F2 p from rfl,p3'] at y; cases y
    ·rw [show (base F2 R' W' H2).H0 p = H2 p from rfl,p1'] at y; cases y
    ·exact absurd y nx
  cases b with
  | false =>
   obtain ⟨z1,z2,z3⟩:=still r4
   exact ⟨F4,R4,W4,δ4,acc,xs,σ3,sT s' (sT s2 (sT s3 s4)),u'.trans (u3.trans u4),ew,r2.trans r4,z1,z2,z3,p4.mono (sT s2 (sT s3 s4)) (u3.trans u4),g4⟩
  | true =>
   refine ⟨_,F4,R4,W4,δ4,_,r4,g4,?_⟩
   rintro y δ5 F5 R5 W5 H5 v ⟨hl,g5⟩ s5 u5 r5 v5
   obtain ⟨z1,z2,z3⟩:=still r5
   have x5:=p4.mono (sT s2 (sT s3 (sT s4 s5))) (u3.trans (u4.trans u5))
   refine ⟨xs,z1,by rw [p4.length]; exact hl,F5,R5,W5,δ5,acc ++ [y],xs ++ [v],σ3,sT s' (sT s2 (sT s3 (sT s4 s5))),u'.trans (u3.trans (u4.trans u5)),ew,?_,upd_same,z2,z3,x5.append (.cons v5 .nil),g5⟩
   refine (r2.trans r5).put (δ':=δ5) z2 (.inl hp0) rfl (fun j s e => .inl ⟨by simp,e⟩) (fun j c e => .inl ⟨by simp,e⟩)
 ·rintro H' ⟨F',R',W',δ',acc,xs,σ',s',u',e',r',p1,p2,p3,p4,l'⟩
  exact k _ _ _ _ _ _ p xs (ge _ _ l') (sT s1 s') (u1.trans u') ((r1.trans r').unwipe e') p1 p3 p2 (r1.dm _ hp) p4
def DTs (X:Cx) (ifs:List Expr) (T:DB):Prop:=PTs X ifs (tB X.K T)
theorem pts_of {ifs:List Expr} {t t':TT} (h:PTs X ifs t) (m:∀ σ H Q,t' σ H Q → t σ H Q):PTs X ifs t':=⟨fun pins s σ H Q I q => h.run pins s σ H Q I (m σ H Q q)⟩
theorem ts_nil:DTs X [] dYes:=pts_of pts_nil fun σ H Q ⟨en,F,R,W,δ,Kt,r0,g0,k⟩ => k _ _ _ _ _ _ g0 (fun _ _ e => e) (Sub.refl _) r0
theorem n_lc {elt iter:Expr} {ifs:List Expr} {scope:Scope} {own:List (Str × Nat)} {js:List Nat} {Gi:DIg} {g:DTg} {T:DB} {Ge:DG} (hc:X.calm = true) (hN:X.N.Nodup) (hi:DI X tg iter Gi) (ok:BlkOk X.N X.env.scope scope own)
  (hg:∀ (s:Shared) (H:Hp) (C:Addr) (cl:List (Str × Addr)) (fp:List Addr),DPg (X.blk s H scope (compEnvC scope cl C X.env) fp) tg js g) (ht:∀ (s:Shared) (H:Hp) (C:Addr) (cl:List (Str × Addr)) (fp:List Addr),DTs (X.blk s H scope (compEnvC scope cl C X.env) fp) ifs T)
  (he:∀ (s:Shared) (H:Hp) (C:Addr) (cl:List (Str × Addr)) (fp:List Addr),DE (X.blk s H scope (compEnvC scope cl C X.env) fp) elt Ge) (hj:∀ j ∈ js,j ∈ own.map (·.2)) (hs:∀ x,foldedSetIterable iter X.env x = pure x:=by intro _; rfl) :
  NE X (.ListComp elt [⟨tg,iter,ifs,0⟩] scope pos) (nLc (own.map (·.2)) Gi g T Ge):=pe_of (pe_lc (g:=tG X.K js g) (tt:=tB X.K T) (te:=tD X.K Ge) hc hN hi ok hg ht he hs) (t_lc hj)
theorem s_setLc {i:Nat} {y:Str} {py spos:Pos} {elt iter:Expr} {ifs:List Expr} {scope:Scope} {own:List (Str × Nat)} {js:List Nat} {Gi:DIg} {g:DTg} {T:DB} {Ge:DG} (hc:X.calm = true) (hN:X.N.Nodup) (hy:X.N[i]? = some y) (hyl:X.env.scope.names.lookup y = some .local)
  (hsw:swapsWith (.ListComp elt [⟨tg,iter,ifs,0⟩] scope pos) (some (.Name y py)) spos.line X.env = pure true) (hi:DI X tg iter Gi) (ok:BlkOk X.N X.env.scope scope own)
  (hg:∀ (s:Shared) (H:Hp) (C:Addr) (cl:List (Str × Addr)) (fp:List Addr),DPg (X.blk s H scope (compEnvC scope cl C X.env) fp) tg js g) (ht:∀ (s:Shared) (H:Hp) (C:Addr) (cl:List (Str × Addr)) (fp:List Addr),DTs (X.blk s H scope (compEnvC scope cl C X.env) fp) ifs T)
  (he:∀ (s:Shared) (H:Hp) (C:Addr) (cl:List (Str × Addr)) (fp:List Addr),DE (X.blk s H scope (compEnvC scope cl C X.env) fp) elt Ge) (hj:∀ j ∈ js,j ∈ own.map (·.2)) (hs:∀ x,foldedSetIterable iter X.env x = pure x:=by intro _; rfl) :
  DStm X (.Assign [.Name y py] (.ListComp elt [⟨tg,iter,ifs,0⟩] scope pos) spos) (dSet i (dLst (nLc (own.map (·.2)) Gi g T Ge))) :=
 ps_of (ps_setLc (g:=tG X.K js g) (tt:=tB X.K T) (te:=tD X.K Ge) hc hN hy hyl hsw hi ok hg ht he hs) fun D σ H ⟨en,F,R,W,δ,DD,r0,g0,k,_⟩ =>
  t_lc hj _ _ _ ⟨en,F,R,W,δ,_,r0,g0,fun ds δ1 F1 R1 W1 H1 p xs ⟨hi,g1⟩ s1 u1 r1 hp f w n x1 => by
   have r2:=r1.frzT hp w (.inl n) f
   exact k _ _ _ _ _ _ g1 (sT s1 (Same.new f)) u1 (r2.setV (.lst upd_same (x1.mono (Same.new f) (Sub.refl _))) (by rw [← r1.ln]; exact hi))⟩
end
end
section
def updS (S:Sto) (i:Nat) (c:Cell):Sto:=fun j => if j = i then some c else S j
def delS (S:Sto) (i:Nat):Sto:=fun j => if j = i then none else S j
@[simp] theorem updS_same {S:Sto} {i:Nat} {c:Cell}:updS S i c i = some c:=if_pos rfl
theorem updS_ne {S:Sto} {i j:Nat} {c:Cell} (h:j ≠ i):updS S i c j = S j:=if_neg h
@[simp] theorem updS_updS {S:Sto} {i:Nat} {c d:Cell}:updS (updS S i c) i d = updS S i d:=by funext j; unfold updS; split <;> rfl
@[simp] theorem delS_updS {S:Sto} {i:Nat} {c:Cell}:delS (updS S i c) i = delS S i:=by
 funext j; unfold delS
 by_cases e:j = i
 ·rw [if_pos e,if_pos e]
 ·rw [if_neg e,if_neg e,updS_ne e]
theorem delS_none {S:Sto} {i:Nat} (h:S i = none):delS S i = S:=by
 funext j; unfold delS
 by_cases e:j = i
 ·subst e; rw [if_pos rfl,h]
 ·rw [if_neg e]
theorem delS_same {S:Sto} {i:Nat}:delS S i i = none:=if_pos rfl
theorem delS_ne {S:Sto} {i j:Nat} (h:j ≠ i):delS S i j = S j:=if_neg h
def cellsW (W:Own):Own:=fun a => match W a with
 | some (.cell i) => some (.cell i)
 | _ => none
theorem cellsW_some {W:Own} {a:Addr} {w:Ow} (h:cellsW W a = some w):W a = some w ∧ ∃ i,w = .cell i:=by
 unfold cellsW at h
 split at h
 ·rename_i i e; obtain rfl:=Option.some.inj h; exact ⟨e,i,rfl⟩
 ·cases h
theorem cellsW_none {W:Own} {a:Addr} (h:W a = none):cellsW W a = none:=by unfold cellsW; rw [h]
theorem cellsW_slot {W:Own} {a:Addr} {i:Nat} (h:W a = some (.slot i)):cellsW W a = none:=by unfold cellsW; rw [h]
theorem cellsW_tmp {W:Own} {a:Addr} (h:W a = some .tmp):cellsW W a = none:=by unfold cellsW; rw [h]
theorem cellsW_cell {W:Own} {a:Addr} {i:Nat} (h:W a = some (.cell i)):cellsW W a = some (.cell i):=by unfold cellsW; rw [h]
def mergeW (W W':Own):Own:=fun a => match W a with
 | some (.slot i) => some (.slot i)
 | some .tmp => some .tmp
 | _ => cellsW W' a
section
variable {K:PySem.W.Frag} {en:En} {F F':Hp} {R R':List Addr} {W W':Own} {δ δ':DS} {σ σ':L2.St} {H H':Hp}
theorem Rel.enter {args:List Sl} {vs:List V} (h:Rel K en F R W δ σ H) (l:args.length = vs.length) (k:∀ (i:Nat) (s:Sl),args[i]? = some s → SlotAt K F R (cellsW W) H (vs.map some) i s):Rel K (base F R (cellsW W) H) F R (cellsW W) ⟨args,δ.S⟩ (vs.map some) H where
 f0:=fun _ _ e => e
 r0:=fun _ _ e => e
 kp:=fun _ _ e _ => e
 dm:=fun _ e => e
 fh:=h.fh
 fw:=fun a o e => cellsW_none (h.fw a o e)
 fn:=fun _ o e => .inl ⟨o,e⟩
 wn:=fun a w e => by
  obtain ⟨e1,i,rfl⟩:=cellsW_some e
  exact ⟨(h.wn a _ e1).1,.inr (.inr ⟨_,e,by simp⟩)⟩
 ce:=fun i c e => by
  obtain ⟨a,h1,h2,h3⟩:=h.ce i c e
  exact ⟨a,h1,cellsW_cell h2,h3⟩
 sl:=k
 ln:=by simp [l]
 tp:=fun a e => e
 tx:=fun a e => by
  obtain ⟨e1,i,z⟩:=cellsW_some e
  cases z
theorem Rel.leave {S':Sto} (h:Rel K en F R W δ σ H) (g:Rel K (base F R (cellsW W) H) F' R' W' ⟨[],S'⟩ [] H'):Rel K en F' R' (mergeW W W') ⟨δ.vs,S'⟩ σ H':=by
 have kept:∀ a o,H a = some o → (∀ i,W a ≠ some (.cell i)) → H' a = some o:=fun a o e n => g.kp a o e fun ⟨w,z,_⟩ => by
  obtain ⟨e1,i,rfl⟩:=cellsW_some z
  exact n i e1
 have mine:∀ a w,W a = some w → (∀ i,w ≠ .cell i) → F' a = none ∧ mergeW W W' a = some w:=fun a w e n => by
  constructor
  ·cases q:F' a with
   | none => rfl
   | some u =>
    rcases g.fn a u q with ⟨v,z⟩ | z | ⟨w',z,_⟩
    ·rw [h.fw a v z] at e; cases e
    ·obtain ⟨⟨o,y⟩,_⟩:=h.wn a w e
     rw [show H a = none from z] at y; cases y
    ·obtain ⟨e1,i,rfl⟩:=cellsW_some z
     rw [e] at e1; exact absurd (Option.some.inj e1) (n i)
  ·unfold mergeW
   rw [e]
   cases w with
   | slot i => rfl
   | tmp => rfl
   | cell i => exact absurd rfl (n i)
 have other:∀ a,(W a = none ∨ ∃ i,W a = some (.cell i)) → mergeW W W' a = cellsW W' a:=fun a z => by
  unfold mergeW
  rcases z with z | ⟨i,z⟩ <;> rw [z]
 have cases3:∀ a,(W a = none ∨ ∃ i,W a = some (.cell i)) ∨ ∃ w,W a = some w ∧ ∀ i,w ≠ .cell i:=fun a => by
  cases q:W a with
  | none => exact .inl (.inl rfl)
  | some w => cases w with
   | cell i => exact .inl (.inr ⟨i,rfl⟩)
   | slot i => exact .inr ⟨_,rfl,by simp⟩
   | tmp => exact .inr ⟨_,rfl,by simp⟩
 refine ⟨sT h.f0 g.f0,h.r0.trans g.r0,?_,fun a e => h.dm a (g.dm a e),g.fh,?_,?_,?_,?_,?_,h.ln,?_,h.tx⟩
 ·intro a o e n
  refine kept a o (h.kp a o e n) fun i z => ?_
  exact (h.may z (by simp)).elim (fun q => by rw [e] at q; cases q) n
 ·intro a o e
  rcases cases3 a with z | ⟨w,z,n⟩
  ·rw [other a z]; exact cellsW_none (g.fw a o e)
  ·rw [(mine a w z n).1] at e; cases e
 ·intro a o e
  rcases g.fn a o e with ⟨v,z⟩ | z | ⟨w,z,_⟩
  ·exact h.fn a v z
  ·exact .inr (.inl (h.dm a z))
  ·obtain ⟨e1,i,rfl⟩:=cellsW_some z
   exact .inr (h.may e1 (by simp))
 ·intro a w e
  rcases cases3 a with z | ⟨w',z,n⟩
  ·rw [other a z] at e
   obtain ⟨e1,i,rfl⟩:=cellsW_some e
   obtain ⟨h1,h2⟩:=g.wn a _ e1
   refine ⟨h1,.inr ?_⟩
   rcases h2 with h2 | h2 | ⟨w,h2,_⟩
   ·cases h2
   ·exact .inl (h.dm a h2)
   ·obtain ⟨e2,j,rfl⟩:=cellsW_some h2
    exact h.may e2 (by simp)
  ·rw [(mine a w' z n).2] at e
   obtain rfl:=Option.some.inj e
   obtain ⟨⟨o,h1⟩,h2⟩:=h.wn a _ z
   exact ⟨⟨o,kept a o h1 fun i y => by rw [z] at y; exact n i (Option.some.inj y)⟩,h2⟩
 ·intro i c e
  obtain ⟨a,h1,h2,h3⟩:=g.ce i c e
  refine ⟨a,h1,?_,h3⟩
  rcases cases3 a with z | ⟨w,z,n⟩
  ·rw [other a z]; exact cellsW_cell h2
  ·exfalso
   obtain ⟨⟨o,y⟩,_⟩:=h.wn a w z
   rcases (g.wn a _ h2).2 with q | q | ⟨w',q,_⟩
   ·cases q
   ·rw [show H a = none from q] at y; cases y
   ·obtain ⟨e1,j,rfl⟩:=cellsW_some q
    rw [z] at e1; exact n j (Option.some.inj e1)
 ·intro i s e
  refine (h.sl i s e).mono g.f0 g.r0 (fun a o w q => kept a o q fun j z => by rw [w] at z; cases z) (fun a o w q => kept a o q fun j z => by rw [w] at z; cases z) (fun a o q w => ?_) (fun a w => (mine a _ w (by simp)).2) (fun _ z => z)
  rw [other a (.inl w)]
  cases z:W' a with
  | none => exact cellsW_none z
  | some w' => cases w' with
   | slot j => exact cellsW_slot z
   | tmp => exact cellsW_tmp z
   | cell j =>
    exfalso
    rcases (g.wn a _ z).2 with y | y | ⟨w2,y,_⟩
    ·cases y
    ·rw [show H a = none from y] at q; cases q
    ·obtain ⟨e1,_,_⟩:=cellsW_some y
     rw [w] at e1; cases e1
 ·intro a e
  exact (mine a _ (h.tp a e) (by simp)).2
end
abbrev Ph:=List Sl → Sto → (D → Sto → Prop) → Prop
def spD (K:PySem.W.Frag) (Φ:Ph):Sp:=fun vs H Q _ => ∃ F R W S args Kt,Rel K (base F R W H) F R W ⟨args,S⟩ (vs.map some) H ∧ Φ args S Kt ∧
 ∀ d S' F' R' W' H' v,Kt d S' → Same F F' → Sub R R' → Rel K (base F R W H) F' R' W' ⟨[],S'⟩ [] H' → Rep K F' R' v d → Q v H'
def startD (n:Nat) (args:List Sl):List Sl:=args ++ List.replicate (n - args.length) .no
theorem Rel.start {K:PySem.W.Frag} {en:En} {F:Hp} {R:List Addr} {W:Own} {S:Sto} {H:Hp} {args:List Sl} {vs:List V} {N:List Str} (h:Rel K en F R W ⟨args,S⟩ (vs.map some) H):Rel K en F R W ⟨startD N.length args,S⟩ (start N vs) H:=by
 have l:args.length = vs.length:=by simpa using h.ln
 refine h.slots (by simp [startD,L2.start,l]) fun i s e => ?_
 by_cases hi:i < args.length
 ·rw [startD,List.getElem?_append_left hi] at e
  refine (h.sl i s e).at fun v q => ?_
  rw [L2.start,List.getElem?_append_left (by simpa [l] using hi)]; exact q
 ·rw [startD,List.getElem?_append_right (by omega),List.getElem?_replicate] at e
  split at e
  ·obtain rfl:=Option.some.inj e; trivial
  ·cases e
def endsD (Kt:D → Sto → Prop):DEnds:={ nx:=fun δ => Kt .non δ.S,rt:=fun d δ => Kt d δ.S }
theorem body_of {X:Cx} {K:PySem.W.Frag} {N:List Str} {sts:List Stmt} {G:DSt} {Φ:Ph} {vs:List V} {H:Hp} {Q:VK} {E:XK} (hK:X.K = K) (hG:DSts X sts G) (hw:∀ args S Kt,Φ args S Kt → G (endsD Kt) ⟨startD N.length args,S⟩) (h:spD K Φ vs H Q E) :
  ∃ t,PSs X sts t ∧ t { nx:=fun _ H' => Q .non H',rt:=Q } (start N vs) H:=by
 subst hK
 obtain ⟨F,R,W,S,args,Kt,r0,g0,k⟩:=h
 refine ⟨_,hG,_,F,R,W,_,endsD Kt,r0.start,hw args S Kt g0,?_,?_,fun _ _ _ _ _ _ z => z.elim,fun _ _ _ _ _ _ z => z.elim⟩
 ·intro δ' F' R' W' σ' H' g1 s1 u1 r1
  exact k _ _ _ _ _ _ _ g1 s1 u1 r1.noslots .non
 ·intro d δ' F' R' W' σ' H' v g1 s1 u1 r1 v1
  exact k _ _ _ _ _ _ _ g1 s1 u1 r1.noslots v1
theorem spD_len {K:PySem.W.Frag} {Φ:Ph} {n:Nat} (hl:∀ args S Kt,Φ args S Kt → args.length = n):∀ vs H Q E,spD K Φ vs H Q E → vs.length = n:=by
 rintro vs H Q E ⟨F,R,W,S,args,Kt,r0,g0,_⟩
 have:=r0.ln
 rw [show (DS.mk args S).vs.length = args.length from rfl,hl _ _ _ g0] at this
 simpa using this.symm
section
variable {P:Program} {w:World} {K:PySem.W.Frag} {mg:Str → Option Value} {base:Heap}
theorem dcal {k:Nat} {x:Str} {st:Stmt} {N ps:List Str} {Φ:Ph} (D:Dfn K mg x st) (S:FnScope N ps (defScope st))
  (hb:∀ (kV doc pm:Value) (an:Option Addr) (cdv ct:Value) (us:List Value),us.length = ps.length → bindArgs (PySem.W.fnOf x x (defArgs st) (defBody st) (defScope st) .none kV doc pm an cdv ct) ⟨us,[]⟩ = pure (ps.zip us))
  (hl:∀ args S Kt,Φ args S Kt → args.length = ps.length)
  (body:∀ (f:Addr) (cdv:Value) (A:Around) (outer:List Env) (s:Shared) (H:Hp) (E:XK),Room k (A.deeper (envOfC x (defScope st) s.heap.objs.size f cdv)) →
   ∃ G,DSts (cxOf CX0 P w K mg base N x (defScope st) f cdv A outer s H E).nox (defBody st) G ∧ ∀ args S Kt,Φ args S Kt → G (endsD Kt) ⟨startD N.length args,S⟩) :
  G1.Cal P w K mg base (k + 1) x (spD K Φ) :=
 G1.cal D S hb (spD_len hl) fun f cdv A outer s H vs Q E hr h => by
  obtain ⟨G,hG,hw⟩:=body f cdv A outer s H E hr
  exact body_of rfl hG hw h
theorem dmet {k:Nat} {C:Addr} {m qual:Str} {st:Stmt} {N ps:List Str} {Φ:Ph} (D:Mth K C m qual st) (S:FnScope N ps (defScope st))
  (hb:∀ (kV doc pm:Value) (an:Option Addr) (cdv ct:Value) (us:List Value),us.length = ps.length → bindArgs (PySem.W.fnOf m qual (defArgs st) (defBody st) (defScope st) .none kV doc pm an cdv ct) ⟨us,[]⟩ = pure (ps.zip us))
  (hl:∀ args S Kt,Φ args S Kt → args.length = ps.length)
  (body:∀ (f:Addr) (cdv:Value) (A:Around) (outer:List Env) (s:Shared) (H:Hp) (E:XK),Room k (A.deeper (envOfC qual (defScope st) s.heap.objs.size f cdv)) →
   ∃ G,DSts (cxOf CX0 P w K mg base N qual (defScope st) f cdv A outer s H E).nox (defBody st) G ∧ ∀ args S Kt,Φ args S Kt → G (endsD Kt) ⟨startD N.length args,S⟩) :
  G1.Met P w K mg base (k + 1) C m (spD K Φ) :=
 G1.met D S hb (spD_len hl) fun f cdv A outer s H vs Q E hr h => by
  obtain ⟨G,hG,hw⟩:=body f cdv A outer s H E hr
  exact body_of rfl hG hw h
end
def lend (δ:DS):Ar → Option Sl
 | .val d => some (.val d)
 | .bv d => (seqD d).map .bor
 | .slot k => match δ.vs[k]? with
  | some (.own ds) => some (.bor ds)
  | some (.bor ds) => some (.bor ds)
  | some (.val d) => (seqD d).map .bor
  | _ => none
def lendAll (δ:DS):List Ar → Option (List Sl)
 | [] => some []
 | a :: r => match lend δ a,lendAll δ r with
  | some x,some y => some (x :: y)
  | _,_ => none
theorem lent_all {K:PySem.W.Frag} {en:En} {F:Hp} {R:List Addr} {W:Own} {δ:DS} {σ:L2.St} {H:Hp} (r:Rel K en F R W δ σ H):∀ {vs:List V} {as:List Ar} {args:List Sl},ArAll K F R σ vs as → lendAll δ as = some args →
  args.length = vs.length ∧ ∀ (pre:List V) (i:Nat) (s:Sl),args[i]? = some s → SlotAt K F R (cellsW W) H ((pre ++ vs).map some) (pre.length + i) s
 | _,_,_,.nil,e => by simp [lendAll] at e; subst e; exact ⟨rfl,fun _ _ _ z => by simp at z⟩
 | _,a :: as,args,.cons (v:=v) (vs:=vs) h t,e => by
  simp only [lendAll] at e
  cases q:lend δ a with
  | none => rw [q] at e; cases e
  | some x =>
   cases q2:lendAll δ as with
   | none => rw [q,q2] at e; cases e
   | some y =>
    rw [q,q2] at e
    obtain rfl:=Option.some.inj e
    obtain ⟨l,hs⟩:=lent_all r t q2
    refine ⟨by simp [l],fun pre i s hi => ?_⟩
    cases i with
    | succ i =>
     have:=hs (pre ++ [v]) i s (by simpa using hi)
     simpa [Nat.add_assoc,Nat.add_comm 1 i] using this
    | zero =>
     obtain rfl:x = s:=by simpa using hi
     have at_:((pre ++ v :: vs).map some)[pre.length + 0]? = some (some v):=by simp
     match a,h,q with
     | .val d,h,q =>
      obtain rfl:Sl.val d = x:=by simpa [lend] using q
      exact ⟨v,at_,h⟩
     | .bv d,h,q =>
      have h2:Rep K F R v d:=h
      simp only [lend] at q
      cases w:seqD d with
      | none => simp [w] at q
      | some ds =>
       obtain rfl:Sl.bor ds = x:=by simpa [w] using q
       obtain ⟨p,xs,z1,z2,z3⟩:=h2.bor r w
       subst z1
       exact ⟨p,xs,at_,z2.mono (fun o _ z => z) fun o _ z => cellsW_none z,z3⟩
     | .slot k,h,q =>
      have h':σ[k]? = some (some v):=h
      have fin:∀ {p:Addr} {xs:List V} {ds:List D},v = .ref p → Bor K (cellsW W) H p xs → RepAll K F R xs ds → SlotAt K F R (cellsW W) H ((pre ++ v :: vs).map some) (pre.length + 0) (.bor ds):=fun {p xs ds} ev b ra => by
       subst ev
       exact ⟨p,xs,at_,b,ra⟩
      have bor:∀ {p:Addr} {xs:List V},Bor K W H p xs → Bor K (cellsW W) H p xs:=fun b => b.mono (fun o _ z => z) fun o _ z => cellsW_none z
      simp only [lend] at q
      cases z:δ.vs[k]? with
      | none => rw [z] at q; cases q
      | some sl =>
       rw [z] at q
       have hsl:=r.sl k sl z
       match sl,q,hsl with
       | .own ds,q,⟨p,xs,h1,h2,h3,h4⟩ =>
        obtain rfl:Sl.bor ds = x:=by simpa using q
        rw [h'] at h1
        exact fin (by simpa using h1) (.inl ⟨cellsW_slot h3,.inl (.inl h2)⟩) h4
       | .bor ds,q,⟨p,xs,h1,h2,h4⟩ =>
        obtain rfl:Sl.bor ds = x:=by simpa using q
        rw [h'] at h1
        exact fin (by simpa using h1) (bor h2) h4
       | .val d,q,⟨u,h1,h2⟩ =>
        cases w:seqD d with
        | none => simp [w] at q
        | some ds =>
         obtain rfl:Sl.bor ds = x:=by simpa [w] using q
         rw [h'] at h1
         obtain ⟨p,xs,z1,z2,z3⟩:=h2.bor r w
         exact fin ((by simpa using h1:v = u).trans z1) (bor z2) z3
section
variable {X:Cx} {k j:Nat} {C:Addr} {x m:Str} {Φ:Ph} {p pos apos:Pos} {e o:Expr} {es:List Expr} {G Go:DG} {Gr:DAr}
def dCall (Φ:Ph) (Gr:DAr):DG:=fun δ Q => Gr δ fun as δ1 => ∃ args,lendAll δ1 as = some args ∧ Φ args δ1.S fun d S' => Q d ⟨δ1.vs,S'⟩
theorem t_spD {K:PySem.W.Frag} {en:En} {F:Hp} {R:List Addr} {W:Own} {δ:DS} {σ:L2.St} {H:Hp} {vs:List V} {as:List Ar} {args:List Sl} {Q:VK} {E:XK} {Kt:D → DS → Prop} (r:Rel K en F R W δ σ H) (ha:ArAll K F R σ vs as) (hl:lendAll δ as = some args) (g:Φ args δ.S fun d S' => Kt d ⟨δ.vs,S'⟩)
  (k:∀ d δ' F' R' W' H' v,Kt d δ' → Same F F' → Sub R R' → Rel K en F' R' W' δ' σ H' → Rep K F' R' v d → Q v H'):spD K Φ vs H Q E:=by
 obtain ⟨l,hs⟩:=lent_all r ha hl
 have r1:Rel K (GD.base F R (cellsW W) H) F R (cellsW W) ⟨args,δ.S⟩ (vs.map some) H:=r.enter l fun i s e => by simpa using hs [] i s e
 exact ⟨F,R,cellsW W,δ.S,args,_,r1,g,fun d S' F' R' W' H' v kd s u r' v' => k _ _ _ _ _ _ _ kd s u (r.leave r') v'⟩
theorem d_call (c:G1.Cal X.prog X.w X.K X.mg X.base k x (spD X.K Φ)) (hr:Room j X.A) (hk:k ≤ j) (hg:Gl X x) (ha:DA X (e :: es) Gr)
  (hdb:(x == ("__debug__" : Str)) = false:=by decide) (he:starEach (e :: es) X.env = (false,eval e X.env) :: starEach es X.env:=by rfl) (hpl:(backTo pos (starEach es X.env)).any (·.1) = false:=by rfl) :
  DE X (.Call (.Name x p) (e :: es) [] pos) (dCall Φ Gr):=pe_of (G1.pe_c c hr hk hg ha hdb he hpl) fun σ H Q ⟨en,F,R,W,δ,Kt,r0,g0,kk⟩ => by
 refine ⟨en,F,R,W,δ,_,r0,g0,?_⟩
 rintro as δ1 F1 R1 W1 H1 vs ⟨args,hl,g1⟩ s1 u1 r1 x1
 rw [List.append_nil]
 exact t_spD (Kt:=Kt) r1 x1 hl g1 fun d δ' F' R' W' H' v kd s u r' v' => kk _ _ _ _ _ _ _ kd (sT s1 s) (u1.trans u) r' v'
def dCall0 (Φ:Ph):DG:=fun δ Q => Φ [] δ.S fun d S' => Q d ⟨δ.vs,S'⟩
theorem d_call0 (c:G1.Cal X.prog X.w X.K X.mg X.base k x (spD X.K Φ)) (hr:Room j X.A) (hk:k ≤ j) (hg:Gl X x) (hdb:(x == ("__debug__" : Str)) = false:=by decide) :
  DE X (.Call (.Name x p) [] [] pos) (dCall0 Φ):=pe_of (G1.pe_c0 c hr hk hg hdb) fun σ H Q ⟨en,F,R,W,δ,Kt,r0,g0,kk⟩ =>
 t_spD (Kt:=Kt) (as:=[]) r0 .nil rfl g0 kk
def objFs (S:Sto) (C:Addr):D → Option (List (Str × D))
 | .obj C' fs => if C' = C then some fs else none
 | .ref i => match S i with
  | some (.ins C' fs) => if C' = C then some fs else none
  | _ => none
 | _ => none
theorem Rel.obj {K:PySem.W.Frag} {en:En} {F:Hp} {R:List Addr} {W:Own} {δ:DS} {σ:L2.St} {H:Hp} {v:V} {d:D} {fs:List (Str × D)} (r:Rel K en F R W δ σ H) (h:Rep K F R v d) (e:objFs δ.S C d = some fs):∃ a dx xs,v = .ref a ∧ H a = some (.ins C dx xs) ∧ RepF K F R xs fs:=by
 cases h <;> simp only [objFs] at e <;> try cases e
 ·rename_i h1 h2
  split at e
  ·rename_i ec
   subst ec
   obtain rfl:=Option.some.inj e
   exact ⟨_,_,_,rfl,r.fh _ _ h1,h2⟩
  ·cases e
 ·rename_i a i h1
  cases q:δ.S i with
  | none => rw [q] at e; cases e
  | some c =>
   rw [q] at e
   cases c with
   | ins C' fs' =>
    simp only at e
    split at e
    ·rename_i ec
     subst ec
     obtain rfl:=Option.some.inj e
     obtain ⟨b,z1,z2,dx,xs,z3,z4⟩:=r.ce i _ q
     rw [h1] at z1
     obtain rfl:=Option.some.inj z1
     exact ⟨_,_,_,rfl,z3,z4⟩
    ·cases e
   | _ => cases e
def dMeth (C:Addr) (m:Str) (Φ:Ph) (Go:DG) (Gr:DAr):DG:=fun δ Q => Go δ fun d δ1 => (∃ fs,objFs δ1.S C d = some fs ∧ fs.lookup m = none) ∧ Gr δ1 fun as δ2 => ∃ args,lendAll δ2 as = some args ∧ Φ (.val d :: args) δ2.S fun d S' => Q d ⟨δ2.vs,S'⟩
def dMeth0 (C:Addr) (m:Str) (Φ:Ph) (Go:DG):DG:=fun δ Q => Go δ fun d δ1 => (∃ fs,objFs δ1.S C d = some fs ∧ fs.lookup m = none) ∧ Φ [.val d] δ1.S fun d S' => Q d ⟨δ1.vs,S'⟩
theorem d_meth0 {pl:Sem Bool} (cl:Cls X.K C) (c:G1.Met X.prog X.w X.K X.mg X.base k C m (spD X.K Φ)) (hr:Room j X.A) (hk:k ≤ j) (ho:DE X o Go)
  (ht:eval (.Call (.Attribute o m apos) [] [] pos) X.env = (do
   let recv ← eval o X.env
   standAt apos.atName
   let (fn,one) ← holding [recv] (getMethod recv m pl)
   callWith pos fn one (backTo pos (starEach [] X.env)) (backToKw pos (keywordEach [] X.env))):=by rfl) :
  DE X (.Call (.Attribute o m apos) [] [] pos) (dMeth0 C m Φ Go):=pe_of (G1.pe_mt0 (pl:=pl) cl c hr hk ho ht) fun σ H Q ⟨en,F,R,W,δ,Kt,r0,g0,kk⟩ => by
 refine ⟨en,F,R,W,δ,_,r0,g0,?_⟩
 rintro d δ1 F1 R1 W1 H1 v ⟨⟨fs,hf,hm⟩,g1⟩ s1 u1 r1 v1
 obtain ⟨a,dx,xs,rfl,h1,h2⟩:=r1.obj v1 hf
 refine ⟨a,dx,xs,rfl,h1,h2.lookN hm,?_⟩
 show spD X.K Φ [.ref a] H1 Q E0
 exact t_spD (Kt:=Kt) (as:=[.val d]) r1 (.cons v1 .nil) rfl g1 fun d δ' F' R' W' H' v kd s u r' v' => kk _ _ _ _ _ _ _ kd (sT s1 s) (u1.trans u) r' v'
theorem Rel.newCell {K:PySem.W.Frag} {en:En} {F:Hp} {R:List Addr} {W:Own} {δ:DS} {σ:L2.St} {H:Hp} {p:Addr} {c:Cell} (h:Rel K en F R W δ σ H) (hp:∃ o,H p = some o) (hw:W p = some .tmp) (hn:en.H0 p = none ∨ en.X0 p) (f:F p = none) (hc:CellAt K F R H p c) :
  δ.S R.length = none ∧ Rel K en F (R ++ [p]) (setW W p (some (.cell R.length))) ⟨δ.vs,updS δ.S R.length c⟩ σ H ∧ Sub R (R ++ [p]) ∧ (R ++ [p])[R.length]? = some p:=by
 have sn:δ.S R.length = none:=by
  cases q:δ.S R.length with
  | none => rfl
  | some c =>
   obtain ⟨a,h1,_⟩:=h.ce _ _ q
   have:=(List.getElem?_eq_some_iff.mp h1).1
   exact absurd this (Nat.lt_irrefl _)
 have u:Sub R (R ++ [p]):=fun i a e => by rw [List.getElem?_append_left (List.getElem?_eq_some_iff.mp e).1]; exact e
 have at_:(R ++ [p])[R.length]? = some p:=by simp
 have h1:Rel K en F (R ++ [p]) W δ σ H:=⟨h.f0,h.r0.trans u,h.kp,h.dm,h.fh,h.fw,h.fn,h.wn,fun i c e => by
  obtain ⟨a,h1,h2,h3⟩:=h.ce i c e
  exact ⟨a,u i a h1,h2,h3.mono (fun _ _ e => e) u fun _ q => q⟩,fun i s e => (h.sl i s e).mono (fun _ _ e => e) u (fun _ _ _ q => q) (fun _ _ _ q => q) (fun _ _ _ z => z) (fun _ z => z) (fun _ z => z),h.ln,h.tp,h.tx⟩
 refine ⟨sn,h1.reown (δ':=⟨δ.vs,updS δ.S R.length c⟩) f hp (.inr hn) rfl (fun i s e => .inl ⟨by rw [hw]; simp,e,.inl ⟨_,hw⟩⟩) (fun i c' e => ?_),u,at_⟩
 have e':updS δ.S R.length c i = some c':=e
 by_cases z:i = R.length
 ·subst z
  rw [updS_same] at e'
  obtain rfl:=Option.some.inj e'
  exact .inr ⟨rfl,at_,hc.mono (fun _ _ e => e) u fun _ q => q⟩
 ·rw [updS_ne z] at e'
  exact .inl ⟨by rw [hw]; simp,e'⟩
theorem Rel.frzCell {K:PySem.W.Frag} {en:En} {F:Hp} {R:List Addr} {W:Own} {δ:DS} {σ:L2.St} {H:Hp} {i:Nat} {fs:List (Str × D)} (h:Rel K en F R W δ σ H) (e:δ.S i = some (.ins C fs)) :
  ∃ p F' W',R[i]? = some p ∧ Same F F' ∧ Rel K en F' R W' ⟨δ.vs,delS δ.S i⟩ σ H ∧ Rep K F' R (.ref p) (.obj C fs):=by
 obtain ⟨p,h1,h2,dx,xs,h3,h4⟩:=h.ce i _ e
 have f:F p = none:=by
  cases q:F p with
  | none => rfl
  | some u => rw [h.fw p u q] at h2; cases h2
 have hn:=h.may h2 (by simp)
 have r1:Rel K en F R (setW W p none) ⟨δ.vs,delS δ.S i⟩ σ H:=h.reown (δ':=⟨δ.vs,delS δ.S i⟩) f ⟨_,h3⟩ (.inr hn) rfl (fun j s q => .inl ⟨by rw [h2]; simp,q,.inr rfl⟩) (fun j c q => by
  have q':delS δ.S i j = some c:=q
  by_cases z:j = i
  ·subst z; rw [delS_same] at q'; cases q'
  ·rw [delS_ne z] at q'; exact .inl ⟨by rw [h2]; intro y; injection y with y; injection y with y; exact z y.symm,q'⟩)
 exact ⟨p,_,_,h1,Same.new f,r1.frz h3 setW_same hn f,.obj upd_same (h4.mono (Same.new f) (Sub.refl _))⟩
def dMake (C:Addr) (Φ:Ph) (Gr:DAr):DG:=fun δ Q => Gr δ fun as δ1 => ∃ args,lendAll δ1 as = some args ∧ ∀ i,δ1.S i = none → Φ (.val (.ref i) :: args) (updS δ1.S i (.ins C [])) fun d S' => d = .non ∧ ∃ fs,S' i = some (.ins C fs) ∧ Q (.obj C fs) ⟨δ1.vs,delS S' i⟩
theorem Rel.made {K:PySem.W.Frag} {en:En} {F:Hp} {R:List Addr} {W:Own} {δ:DS} {σ:L2.St} {H:Hp} {y dx:Addr} (h:Rel K en F R W δ σ H) (n1:H y = none) (n2:H dx = none) (ne:dx ≠ y) :
  δ.S R.length = none ∧ ∃ W',Rel K en F (R ++ [y]) W' ⟨δ.vs,updS δ.S R.length (.ins C [])⟩ σ (upd (upd H dx (.own y)) y (.ins C dx [])) ∧ Sub R (R ++ [y]) ∧ (R ++ [y])[R.length]? = some y:=by
 have r1:=h.new (o := .own y) n2
 have n3:upd H dx (.own y) y = none:=by rw [upd_ne ne.symm]; exact n1
 have r2:=r1.newT (o := .ins C dx []) n3
 obtain ⟨s,r3,u,a⟩:=r2.newCell (c := .ins C []) ⟨_,upd_same⟩ setW_same (.inl (h.dm _ n1)) (h.fNone n1) ⟨dx,[],upd_same,.nil⟩
 exact ⟨s,_,r3,u,a⟩
end
end
section
section
variable {X:Cx} {e a b o:Expr} {es:List Expr} {pos p apos:Pos} {G Ga Gb Go:DG} {Gn:DN} {Gr:DAr} {x:Str} {id T:String} {K:PySem.W.Frag}
abbrev G1':=D → (D → Prop) → Prop
def dU (g:G1') (G:DG):DG:=fun δ Q => G δ fun d δ' => g d fun z => Q z δ'
def LC1 (K:PySem.W.Frag) (r:List V → Hp → VK → Prop) (g:G1'):Prop:=∀ (F:Hp) (R:List Addr) (H:Hp) (x:V) (dx:D) (Q:VK) (Kt:D → Prop),Same F H → Rep K F R x dx → g dx Kt → (∀ d v,Kt d → Rep K F R v d → Q v H) → r [x] H Q
theorem t_u {r:List V → Hp → VK → Prop} {g:G1'} (l:LC1 K r g):∀ σ H Q,tD K (dU g G) σ H Q → tCB r (tCons (tD K G) tNil) σ H Q:=by
 rintro σ H Q ⟨en,F,R,W,δ,Kt,r0,g0,k⟩
 refine ⟨en,F,R,W,δ,_,r0,g0,?_⟩
 intro d δ1 F1 R1 W1 H1 v g1 s1 u1 r1 v1
 exact l F1 R1 H1 v d Q _ r1.fh v1 g1 fun d' v' kd rv => k d' δ1 F1 R1 W1 H1 v' kd s1 u1 r1 rv
theorem d_b1 {r:List V → Hp → VK → Prop} {g:G1'} (hc:CallR X (.builtin id) r) (l:LC1 X.K r g) (hg:Gl X x) (hm:X.mg x = none) (hv:bootBuiltins x = some (.builtin id)) (he:DE X e G) (hn:x ≠ "__name__" := by decide) (hdb:(x == ("__debug__" : Str)) = false:=by decide)
  (hs:starEach [e] X.env = (false,eval e X.env) :: starEach [] X.env:=by rfl) (hpl:(backTo pos (starEach [] X.env)).any (·.1) = false:=by rfl):DE X (.Call (.Name x p) [e] [] pos) (dU g G):=pe_of (pe_callB hc hg hm hv (pa_cons he pa_nil hs) hn hdb hs hpl) (t_u l)
theorem d_t1 {r:List V → Hp → VK → Prop} {g:G1'} (hc:CallR X (.type T) r) (l:LC1 X.K r g) (hg:Gl X x) (hm:X.mg x = none) (hv:bootBuiltins x = some (.type T)) (he:DE X e G) (hn:x ≠ "__name__" := by decide) (hdb:(x == ("__debug__" : Str)) = false:=by decide)
  (hs:starEach [e] X.env = (false,eval e X.env) :: starEach [] X.env:=by rfl) (hpl:(backTo pos (starEach [] X.env)).any (·.1) = false:=by rfl):DE X (.Call (.Name x p) [e] [] pos) (dU g G):=pe_of (pe_callTy hc hg hm hv (pa_cons he pa_nil hs) hn hdb hs hpl) (t_u l)
def gInt:G1'
 | .int i,Q => Q (.int i)
 | .bl b,Q => Q (.int (if b then 1 else 0))
 | _,_ => False
theorem l_int:LC1 K (fun xs H Q => (∃ i,xs = [.int i] ∧ Q (.int i) H) ∨ (∃ k,xs = [.bl k] ∧ Q (.int (if k then 1 else 0)) H)) gInt:=by
 intro F R H x dx Q Kt s hx hg k
 cases hx <;> simp only [gInt] at hg
 ·exact .inr ⟨_,rfl,k _ _ hg (.int _)⟩
 ·exact .inl ⟨_,rfl,k _ _ hg (.int _)⟩
theorem d_toInt (hg:Gl X "int") (hm:X.mg "int" = none) (he:DE X e G) (hs:starEach [e] X.env = (false,eval e X.env) :: starEach [] X.env:=by rfl) (hpl:(backTo pos (starEach [] X.env)).any (·.1) = false:=by rfl):DE X (.Call (.Name "int" p) [e] [] pos) (dU gInt G) :=
 d_t1 (r:=fun xs H Q => (∃ i,xs = [.int i] ∧ Q (.int i) H) ∨ (∃ k,xs = [.bl k] ∧ Q (.int (if k then 1 else 0)) H)) (fun pins s σ H xs us Q I r h => call_int1 pins s σ H xs us Q I r h) l_int hg hm (by decide +kernel) he (by decide) (by decide) hs hpl
def gAbs:G1'
 | .int i,Q => Q (.int (if i < 0 then -i else i))
 | _,_ => False
theorem d_abs (hg:Gl X "abs") (hm:X.mg "abs" = none) (he:DE X e G) (hs:starEach [e] X.env = (false,eval e X.env) :: starEach [] X.env:=by rfl) (hpl:(backTo pos (starEach [] X.env)).any (·.1) = false:=by rfl):DE X (.Call (.Name "abs" p) [e] [] pos) (dU gAbs G) :=
 d_b1 call_abs (by
  intro F R H x dx Q Kt s hx hg k
  cases hx <;> simp only [gAbs] at hg
  exact ⟨_,rfl,k _ _ hg (.int _)⟩) hg hm (by decide +kernel) he (by decide) (by decide) hs hpl
def gStrI:G1'
 | .int i,Q => i.natAbs.log2 < 1920 ∧ Q (.str (toString i))
 | _,_ => False
theorem d_strI (hg:Gl X "str") (hm:X.mg "str" = none) (he:DE X e G) (hs:starEach [e] X.env = (false,eval e X.env) :: starEach [] X.env:=by rfl) (hpl:(backTo pos (starEach [] X.env)).any (·.1) = false:=by rfl):DE X (.Call (.Name "str" p) [e] [] pos) (dU gStrI G) :=
 d_t1 call_str_int (by
  intro F R H x dx Q Kt s hx hg k
  cases hx <;> simp only [gStrI] at hg
  exact ⟨_,rfl,hg.1,k _ _ hg.2 (.str _)⟩) hg hm (by decide +kernel) he (by decide) (by decide) hs hpl
def gStrS:G1'
 | .str z,Q => Q (.str z)
 | _,_ => False
theorem d_strS (hg:Gl X "str") (hm:X.mg "str" = none) (he:DE X e G) (hs:starEach [e] X.env = (false,eval e X.env) :: starEach [] X.env:=by rfl) (hpl:(backTo pos (starEach [] X.env)).any (·.1) = false:=by rfl):DE X (.Call (.Name "str" p) [e] [] pos) (dU gStrS G) :=
 d_t1 SkE.call_str_str (by
  intro F R H x dx Q Kt s hx hg k
  cases hx <;> simp only [gStrS] at hg
  exact ⟨_,rfl,k _ _ hg (.str _)⟩) hg hm (by decide +kernel) he (by decide) (by decide) hs hpl
def gLenS:G1'
 | .str z,Q => z.length ≤ sizeLine ∧ Q (.int z.length)
 | _,_ => False
theorem d_lenS (hg:Gl X "len") (hm:X.mg "len" = none) (he:DE X e G) (hs:starEach [e] X.env = (false,eval e X.env) :: starEach [] X.env:=by rfl) (hpl:(backTo pos (starEach [] X.env)).any (·.1) = false:=by rfl):DE X (.Call (.Name "len" p) [e] [] pos) (dU gLenS G) :=
 d_b1 call_len_str (by
  intro F R H x dx Q Kt s hx hg k
  cases hx <;> simp only [gLenS] at hg
  exact ⟨_,rfl,hg.1,k _ _ hg.2 (.int _)⟩) hg hm (by decide +kernel) he (by decide) (by decide) hs hpl
def dLen (Gn:DN):DG:=fun δ Q => Gn δ fun ds δ' => Q (.int (ds.length:Nat)) δ'
theorem d_len (hg:Gl X "len") (hm:X.mg "len" = none) (he:SE X e Gn) (hs:starEach [e] X.env = (false,eval e X.env) :: starEach [] X.env:=by rfl) (hpl:(backTo pos (starEach [] X.env)).any (·.1) = false:=by rfl):DE X (.Call (.Name "len" p) [e] [] pos) (dLen Gn) :=
 pe_of (pe_callB call_len_seq hg hm (by decide +kernel) (pa_cons he pa_nil hs) (by decide) (by decide) hs hpl) fun σ H Q ⟨en,F,R,W,δ,Kt,r0,g0,k⟩ => by
  refine ⟨en,F,R,W,δ,_,r0,g0,?_⟩
  intro ds δ1 F1 R1 W1 H1 a xs g1 s1 u1 r1 q1 x1
  refine ⟨a,xs,rfl,q1,?_⟩
  rw [x1.length]
  exact k _ _ _ _ _ _ _ g1 s1 u1 r1 (.int _)
theorem n_list (hg:Gl X "list") (hm:X.mg "list" = none) (he:SE X e Gn) (hs:starEach [e] X.env = (false,eval e X.env) :: starEach [] X.env:=by rfl) (hpl:(backTo pos (starEach [] X.env)).any (·.1) = false:=by rfl):NE X (.Call (.Name "list" p) [e] [] pos) Gn :=
 pe_of (pe_callTy call_list_of hg hm (by decide +kernel) (pa_cons he pa_nil hs) (by decide) (by decide) hs hpl) fun σ H Q ⟨en,F,R,W,δ,Kt,r0,g0,k⟩ => by
  refine ⟨en,F,R,W,δ,_,r0,g0,?_⟩
  intro ds δ1 F1 R1 W1 H1 a xs g1 s1 u1 r1 q1 x1
  exact ⟨a,xs,rfl,q1,fun q hq => k _ _ _ _ _ _ q _ g1 s1 u1 (r1.newT hq) upd_same (r1.fNone hq) setW_same (r1.dm _ hq) x1⟩
def dTupL (Gn:DN):DG:=fun δ Q => Gn δ fun ds δ' => Q (.tup ds) δ'
def tLq (K:PySem.W.Frag) (G:DN):TE:=fun σ H Q => ∃ en F R W δ Kt,Rel K en F R W δ σ H ∧ G δ Kt ∧ ∀ ds δ' F' R' W' H' a xs,Kt ds δ' → Same F F' → Sub R R' → Rel K en F' R' W' δ' σ H' → SqL K H' a xs → RepAll K F' R' xs ds → Q (.ref a) H'
def LE (X:Cx) (e:Expr) (G:DN):Prop:=PE X e (tLq X.K G)
def lqOf (G:DG):DN:=fun δ Q => G δ fun d δ' => ∃ ds,lstD d = some ds ∧ Q ds δ'
theorem l_d (h:DE X e G):LE X e (lqOf G):=pe_of h fun σ H Q ⟨en,F,R,W,δ,Kt,r0,g0,k⟩ => by
 refine ⟨en,F,R,W,δ,_,r0,g0,?_⟩
 rintro d δ1 F1 R1 W1 H1 v ⟨ds,e,kd⟩ s1 u1 r1 x1
 cases x1 <;> simp [lstD] at e <;> subst e
 ·rename_i h1 h2; exact k _ δ1 F1 R1 W1 H1 _ _ kd s1 u1 r1 (SqL.of (r1.fh _ _ h1)) h2
 ·rename_i h1 h2; exact k _ δ1 F1 R1 W1 H1 _ _ kd s1 u1 r1 (same_l r1.fh h1) h2
theorem l_n (h:NE X e Gn):LE X e Gn:=pe_of h fun σ H Q ⟨en,F,R,W,δ,Kt,r0,g0,k⟩ => by
 refine ⟨en,F,R,W,δ,_,r0,g0,?_⟩
 rintro ds δ1 F1 R1 W1 H1 p xs kd s1 u1 r1 hp f w n x1
 exact k _ δ1 F1 R1 W1 H1 p xs kd s1 u1 r1 (SqL.of hp) x1
def lqSl (i:Nat):DN:=fun δ Q => ∃ ds,δ.vs[i]? = some (.own ds) ∧ Q ds δ
theorem l_s {i:Nat} (h:PE X e (tVar i)):LE X e (lqSl i):=pe_of h fun σ H Q ⟨en,F,R,W,δ,Kt,r0,⟨ds,e,g0⟩,k⟩ => by
 obtain ⟨a,xs,h1,h2,h3,h4⟩:=r0.sl i _ e
 exact ⟨_,h1,k _ _ _ _ _ _ _ _ g0 (fun _ _ e => e) (Sub.refl _) r0 (SqL.of h2) h4⟩
theorem d_tupL (hg:Gl X "tuple") (hm:X.mg "tuple" = none) (he:LE X e Gn) (hs:starEach [e] X.env = (false,eval e X.env) :: starEach [] X.env:=by rfl) (hpl:(backTo pos (starEach [] X.env)).any (·.1) = false:=by rfl):DE X (.Call (.Name "tuple" p) [e] [] pos) (dTupL Gn) :=
 pe_of (pe_callTy call_tuple_of hg hm (by decide +kernel) (pa_cons he pa_nil hs) (by decide) (by decide) hs hpl) fun σ H Q ⟨en,F,R,W,δ,Kt,r0,g0,k⟩ => by
  refine ⟨en,F,R,W,δ,_,r0,g0,?_⟩
  intro ds δ1 F1 R1 W1 H1 a xs g1 s1 u1 r1 q1 x1
  refine ⟨a,xs,rfl,.inl ⟨q1,fun q hq => ?_⟩⟩
  obtain ⟨r2,s2⟩:=r1.newF (o := .tup xs) hq
  exact k _ _ _ _ _ _ _ g1 (sT s1 s2) u1 r2 (.tup sqT_new (x1.mono s2 (Sub.refl _)))
def gTupT:G1'
 | .tup ds,Q => Q (.tup ds)
 | _,_ => False
def dAll (f:List Bool → Bool) (Gn:DN):DG:=fun δ Q => Gn δ fun ds δ' => ∃ bs:List Bool,ds = bs.map D.bl ∧ Q (.bl (f bs)) δ'
theorem repBls {F:Hp} {R:List Addr}:∀ {xs:List V} {bs:List Bool},RepAll K F R xs (bs.map D.bl) → xs = bs.map V.bl
 | _,[],.nil => rfl
 | _,b :: bs,.cons h t => by cases h; rw [repBls t]; rfl
theorem d_all (hc:X.calm = true) (hg:Gl X "all") (hm:X.mg "all" = none) (he:LE X e Gn) (hs:starEach [e] X.env = (false,eval e X.env) :: starEach [] X.env:=by rfl) (hpl:(backTo pos (starEach [] X.env)).any (·.1) = false:=by rfl):DE X (.Call (.Name "all" p) [e] [] pos) (dAll (·.all (fun b => b)) Gn) :=
 pe_of (pe_callB (cr_all hc) hg hm (by decide +kernel) (pa_cons he pa_nil hs) (by decide) (by decide) hs hpl) fun σ H Q ⟨en,F,R,W,δ,Kt,r0,g0,k⟩ => by
  refine ⟨en,F,R,W,δ,_,r0,g0,?_⟩
  rintro ds δ1 F1 R1 W1 H1 a xs ⟨bs,rfl,g1⟩ s1 u1 r1 q1 x1
  rw [repBls x1] at q1
  exact ⟨a,bs,rfl,q1,k _ _ _ _ _ _ _ g1 s1 u1 r1 (.bl _)⟩
def flat1:D → Option V
 | .non => some .non
 | .bl b => some (.bl b)
 | .int i => some (.int i)
 | .str z => some (.str z)
 | _ => none
def flats':List D → Option (List V)
 | [] => some []
 | d :: r => match flat1 d,flats' r with
  | some x,some y => some (x :: y)
  | _,_ => none
theorem Rep.flat {F:Hp} {R:List Addr} {v u:V} {d:D} (h:Rep K F R v d) (e:flat1 d = some u):v = u ∧ flatV u = true:=by
 cases h <;> simp [flat1] at e <;> subst e <;> exact ⟨rfl,rfl⟩
theorem RepAll.flat {F:Hp} {R:List Addr}:∀ {xs us:List V} {ds:List D},RepAll K F R xs ds → flats' ds = some us → xs = us ∧ us.all flatV = true
 | _,us,[],.nil,e => by simp [flats'] at e; subst e; exact ⟨rfl,rfl⟩
 | _,us,d :: ds,.cons h t,e => by
  simp only [flats'] at e
  cases q:flat1 d with
  | none => rw [q] at e; cases e
  | some x =>
   cases q2:flats' ds with
   | none => rw [q,q2] at e; cases e
   | some y =>
    rw [q,q2] at e
    obtain rfl:=Option.some.inj e
    obtain ⟨e1,e2⟩:=h.flat q
    obtain ⟨e3,e4⟩:=RepAll.flat t q2
    subst e1 e3
    exact ⟨rfl,by simp [e2,e4]⟩
def dIn (neg:Bool) (Ga:DG) (Gn:DN):DG:=fun δ Q => Ga δ fun d δ1 => Gn δ1 fun ds δ2 => ∃ v us,flat1 d = some v ∧ flats' ds = some us ∧ Q (.bl (if neg then !inV v us else inV v us)) δ2
theorem t_in {neg:Bool}:∀ σ H Q,tD K (dIn neg Ga Gn) σ H Q → tOp (rIn K neg) (tD K Ga) (tSq K Gn) σ H Q:=by
 rintro σ H Q ⟨en,F,R,W,δ,Kt,r0,g0,k⟩
 refine ⟨en,F,R,W,δ,_,r0,g0,?_⟩
 intro d δ1 F1 R1 W1 H1 v g1 s1 u1 r1 v1
 refine ⟨en,F1,R1,W1,δ1,_,r1,g1,?_⟩
 rintro ds δ2 F2 R2 W2 H2 a xs ⟨u,us,e1,e2,kd⟩ s2 u2 r2 q2 x2
 obtain ⟨rfl,f1⟩:=v1.flat e1
 obtain ⟨rfl,f2⟩:=x2.flat e2
 exact ⟨a,xs,rfl,q2,f1,f2,k _ _ _ _ _ _ _ kd (sT s1 s2) (u1.trans u2) r2 (.bl _)⟩
theorem dt_in (ha:DE X a Ga) (hb:SE X b Gn) (hm:behindInMarks .In b = false:=by rfl):DT X (.Compare a [.In] [b] pos) (dTst (dIn false Ga Gn)):=pt_of (pt_cmpR op_in_seq ha hb hm) fun σ H Q ⟨en,F,R,W,δ,Kt,r0,g0,k⟩ => by
 refine t_in σ H _ ⟨en,F,R,W,δ,_,r0,g0,?_⟩
 rintro d δ1 F1 R1 W1 H1 x ⟨c,rfl,kc⟩ s1 u1 r1 x1
 cases x1
 exact ⟨c,rfl,k c δ1 F1 R1 W1 H1 kc s1 u1 r1⟩
theorem repStrs {F:Hp} {R:List Addr}:∀ {xs:List V} {bs:List Str},RepAll K F R xs (bs.map D.str) → xs = bs.map V.str
 | _,[],.nil => rfl
 | _,b :: bs,.cons h t => by cases h; rw [repStrs t]; rfl
def dJoin (Go:DG) (Gn:DN):DG:=fun δ Q => Go δ fun d δ1 => (∃ s,d = .str s) ∧ Gn δ1 fun ds δ2 => ∃ s,∃ ys:List Str,d = .str s ∧ ds = ys.map D.str ∧ (ys.map (·.length)).sum + ys.length * s.length ≤ 16777216 ∧ Q (.str (Txt.join s ys)) δ2
theorem d_join (ho:DE X o Go) (he:SE X e Gn) (hs:starEach [e] X.env = [(false,eval e X.env)]:=by rfl) (hbase:attributeBase o "join" X.env (eval o X.env) = eval o X.env:=by rfl) (hline:(apos.endLine == pos.line) = true:=by rfl) :
  DE X (.Call (.Attribute o "join" apos) [e] [] pos) (dJoin Go Gn):=pe_of (pe_join ho he hs hbase hline) fun σ H Q ⟨en,F,R,W,δ,Kt,r0,g0,k⟩ => by
 refine ⟨en,F,R,W,δ,_,r0,g0,?_⟩
 rintro d δ1 F1 R1 W1 H1 v ⟨⟨s,rfl⟩,g1⟩ s1 u1 r1 v1
 cases v1
 refine ⟨⟨s,rfl⟩,en,F1,R1,W1,δ1,_,r1,g1,?_⟩
 rintro ds δ2 F2 R2 W2 H2 a xs ⟨s',ys,e1,rfl,hl,kd⟩ s2 u2 r2 q2 x2
 cases e1
 rw [repStrs x2] at q2
 exact ⟨s,a,ys,rfl,rfl,q2,hl,k _ _ _ _ _ _ _ kd (sT s1 s2) (u1.trans u2) r2 (.str _)⟩
def gNeg:G1'
 | .int i,Q => Q (.int (-i))
 | _,_ => False
theorem d_app {i:Nat} {cpos:Pos} (h:PE X o (tVar i)) (he:DE X e G) (hbase:attributeBase o "append" X.env (eval o X.env) = eval o X.env:=by rfl)
  (hfew:((backTo cpos (starEach [e] X.env)).all (fun x => !x.1) && (backToKw cpos (keywordEach [] X.env)).all (fun x => x.1.isSome) && decide ([e].length + ([]:List Keyword).length + (if ([]:List Keyword).isEmpty then 0 else 1) < 30)) = true:=by rfl)
  (hline:(apos.endLine == cpos.line) = true:=by rfl) (hs:starEach [e] X.env = (false,eval e X.env) :: starEach [] X.env:=by rfl) (hplain:(backTo cpos (starEach [] X.env)).any (·.1) = false:=by rfl) :
  DE X (.Call (.Attribute o "append" apos) [e] [] cpos) (dApp i G):=pe_of (pe_bm PySem.F.plainAttrs_list PySem.F.slot_list_append PySem.F.type_list_append mt_append h (pa_cons he pa_nil hs) hbase hfew hline hs hplain) t_app
theorem d_ins {i:Nat} {cpos:Pos} (h:PE X o (tVar i)) (ha:DE X a Ga) (hb:DE X b Gb) (hbase:attributeBase o "insert" X.env (eval o X.env) = eval o X.env:=by rfl)
  (hfew:((backTo cpos (starEach [a,b] X.env)).all (fun x => !x.1) && (backToKw cpos (keywordEach [] X.env)).all (fun x => x.1.isSome) && decide ([a,b].length + ([]:List Keyword).length + (if ([]:List Keyword).isEmpty then 0 else 1) < 30)) = true:=by rfl)
  (hline:(apos.endLine == cpos.line) = true:=by rfl) (hs:starEach [a,b] X.env = (false,eval a X.env) :: starEach [b] X.env:=by rfl) (hs2:starEach [b] X.env = (false,eval b X.env) :: starEach [] X.env:=by rfl) (hplain:(backTo cpos (starEach [b] X.env)).any (·.1) = false:=by rfl) :
  DE X (.Call (.Attribute o "insert" apos) [a,b] [] cpos) (dIns i Ga Gb):=pe_of (pe_bm (r:=rInsert) PySem.F.plainAttrs_list PySem.F.slot_list_insert PySem.F.type_list_insert mt_insert h (pa_cons ha (pa_cons hb pa_nil hs2) hs) hbase hfew hline hs hplain) t_ins
end
end
section
section
variable {K:PySem.W.Frag} {en:En} {F:Hp} {R:List Addr} {W:Own} {δ:DS} {σ:L2.St} {H:Hp}
theorem Rel.putCell {i:Nat} {c c':Cell} (h:Rel K en F R W δ σ H) (e:δ.S i = some c):∃ p,R[i]? = some p ∧ CellAt K F R H p c ∧ ∀ o,CellAt K F R (upd H p o) p c' → Rel K en F R W ⟨δ.vs,updS δ.S i c'⟩ σ (upd H p o):=by
 obtain ⟨p,h1,h2,h3⟩:=h.ce i c e
 refine ⟨p,h1,h3,fun o hc => h.put (δ':=⟨δ.vs,updS δ.S i c'⟩) h2 (h.may h2 (by simp)) rfl (fun j s q => .inl ⟨by simp,q⟩) (fun j d q => ?_)⟩
 have q':updS δ.S i c' j = some d:=q
 by_cases z:j = i
 ·subst z
  rw [updS_same] at q'
  obtain rfl:=Option.some.inj q'
  exact .inr ⟨rfl,h1,hc⟩
 ·rw [updS_ne z] at q'
  exact .inl ⟨fun y => by injection y with y; exact z y.symm,q'⟩
end
def putFD (f:Str) (v:D):List (Str × D) → List (Str × D)
 | [] => [(f,v)]
 | (g,x) :: r => if g = f then (g,v) :: r else (g,x) :: putFD f v r
theorem RepF.put {K:PySem.W.Frag} {F:Hp} {R:List Addr} {f:Str} {v:V} {d:D} (h:Rep K F R v d):∀ {xs:List (Str × V)} {ds:List (Str × D)},RepF K F R xs ds → RepF K F R (putF f v xs) (putFD f d ds)
 | _,_,.nil => .cons h .nil
 | _,_,.cons (k:=k) a b => by
  simp only [putF,putFD]
  split
  ·exact .cons h b
  ·exact .cons a (RepF.put h b)
theorem RepF.length {K:PySem.W.Frag} {F:Hp} {R:List Addr}:∀ {xs:List (Str × V)} {ds:List (Str × D)},RepF K F R xs ds → xs.length = ds.length
 | _,_,.nil => rfl
 | _,_,.cons a b => by simp [RepF.length b]
theorem RepK.length {K:PySem.W.Frag} {F:Hp} {R:List Addr}:∀ {xs:List (Key × V)} {ds:List (Key × D)},RepK K F R xs ds → xs.length = ds.length
 | _,_,.nil => rfl
 | _,_,.cons a b => by simp [RepK.length b]
section
variable {X:Cx} {e a b o v:Expr} {es:List Expr} {pos p apos pos':Pos} {G Ga Gb Go Gv:DG} {Gn:DN} {Gr:DAr} {x f:Str} {K:PySem.W.Frag} {C:Addr}
def dSetF (C:Addr) (f:Str) (Go Gv:DG):DSt:=fun DD δ => Gv δ fun d δ1 => Go δ1 fun o δ2 => ∃ i fs,o = .ref i ∧ δ2.S i = some (.ins C fs) ∧ fs.length < 1000 ∧ DD.nx ⟨δ2.vs,updS δ2.S i (.ins C (putFD f d fs))⟩
theorem s_setF (hc:Cls X.K C ∧ NoAttr X.K C f) (ho:DE X o Go) (hv:DE X v Gv) (hs:swapsWith v (some (.Attribute o f pos')) pos.line X.env = pure false:=by rfl):DStm X (.Assign [.Attribute o f pos'] v pos) (dSetF C f Go Gv):=ps_of (ps_fld ho hv hs) fun D σ H ⟨en,F,R,W,δ,DD,r0,g0,k,_⟩ => by
 refine ⟨en,F,R,W,δ,_,r0,g0,?_⟩
 intro d δ1 F1 R1 W1 H1 y g1 s1 u1 r1 y1
 refine ⟨en,F1,R1,W1,δ1,_,r1,g1,?_⟩
 rintro od δ2 F2 R2 W2 H2 z ⟨i,fs,rfl,hS,hl,g2⟩ s2 u2 r2 z2
 cases z2 with
 | ref hz =>
  obtain ⟨q,h1,⟨dx,xs,h3,h4⟩,h5⟩:=r2.putCell (c' := .ins C (putFD f d fs)) hS
  rw [hz] at h1
  obtain rfl:=Option.some.inj h1
  refine ⟨_,C,dx,xs,rfl,h3,hc.1,hc.2,by rw [h4.length]; exact hl,?_⟩
  exact k _ _ _ _ _ _ g2 (sT s1 s2) (u1.trans u2) (h5 _ ⟨dx,_,upd_same,RepF.put (y1.mono s2 u2) h4⟩)
def keyD:D → Option Key
 | .int i => some (.inl i)
 | .str z => some (.inr z)
 | _ => none
def valD (kvs:List (Key × D)) (k:Key):Option D:=(kvs.find? fun kv => decide (kv.1 = k)).map (·.2)
def putKD (kvs:List (Key × D)) (k:Key) (v:D):List (Key × D) :=
 if (kvs.any fun kv => decide (kv.1 = k)) = true then kvs.map (fun kv => if kv.1 = k then (kv.1,v) else kv) else kvs ++ [(k,v)]
theorem RepK.val {F:Hp} {R:List Addr} {k:Key}:∀ {xs:List (Key × V)} {ds:List (Key × D)},RepK K F R xs ds → (∀ d,valD ds k = some d → ∃ v,valV xs k = some v ∧ Rep K F R v d) ∧ (valD ds k = none → valV xs k = none)
 | _,_,.nil => ⟨fun d e => by simp [valD] at e,fun _ => rfl⟩
 | _,_,.cons (k:=k') (ds:=ds) a b => by
  obtain ⟨h1,h2⟩:=RepK.val (k:=k) b
  by_cases z:k' = k
  ·subst z
   refine ⟨fun d e => ?_,fun e => ?_⟩
   ·simp [valD,List.find?] at e; subst e; exact ⟨_,by simp [valV,List.find?],a⟩
   ·simp [valD,List.find?] at e
  ·refine ⟨fun d e => ?_,fun e => ?_⟩
   ·have:valD ds k = some d:=by simpa [valD,List.find?,z] using e
    obtain ⟨v,q1,q2⟩:=h1 d this
    exact ⟨v,by simpa [valV,List.find?,z] using q1,q2⟩
   ·have:valD ds k = none:=by simpa [valD,List.find?,z] using e
    have:=h2 this
    simpa [valV,List.find?,z] using this
theorem RepK.append {F:Hp} {R:List Addr}:∀ {v v':List (Key × V)} {d d':List (Key × D)},RepK K F R v d → RepK K F R v' d' → RepK K F R (v ++ v') (d ++ d')
 | _,_,_,_,.nil,s => s
 | _,_,_,_,.cons a b,s => .cons a (RepK.append b s)
theorem RepK.any {F:Hp} {R:List Addr} {k:Key}:∀ {xs:List (Key × V)} {ds:List (Key × D)},RepK K F R xs ds → (xs.any fun kv => decide (kv.1 = k)) = (ds.any fun kv => decide (kv.1 = k))
 | _,_,.nil => rfl
 | _,_,.cons a b => by simp [RepK.any b]
theorem RepK.map {F:Hp} {R:List Addr} {k:Key} {v:V} {d:D} (h:Rep K F R v d):∀ {xs:List (Key × V)} {ds:List (Key × D)},RepK K F R xs ds → RepK K F R (xs.map (fun kv => if kv.1 = k then (kv.1,v) else kv)) (ds.map (fun kv => if kv.1 = k then (kv.1,d) else kv))
 | _,_,.nil => .nil
 | _,_,.cons (k:=k') a b => by
  simp only [List.map_cons]
  by_cases z:k' = k
  ·rw [if_pos z,if_pos z]; exact .cons h (RepK.map h b)
  ·rw [if_neg z,if_neg z]; exact .cons a (RepK.map h b)
theorem RepK.put {F:Hp} {R:List Addr} {k:Key} {v:V} {d:D} (h:Rep K F R v d) {xs:List (Key × V)} {ds:List (Key × D)} (r:RepK K F R xs ds):RepK K F R (putK xs k v) (putKD ds k d):=by
 unfold putK putKD
 rw [r.any (k:=k)]
 split
 ·exact r.map h
 ·exact r.append (.cons h .nil)
theorem Rep.key {F:Hp} {R:List Addr} {v:V} {d:D} {k:Key} (h:Rep K F R v d) (e:keyD d = some k):v = kV k:=by
 cases h <;> simp [keyD] at e <;> subst e <;> rfl
def dctOf (S:Sto):D → Option (List (Key × D))
 | .dct kvs => some kvs
 | .ref i => match S i with
  | some (.dct kvs) => some kvs
  | _ => none
 | _ => none
theorem Rel.dct {en:En} {F:Hp} {R:List Addr} {W:Own} {δ:DS} {σ:L2.St} {H:Hp} {v:V} {d:D} {kvs:List (Key × D)} (r:Rel K en F R W δ σ H) (h:Rep K F R v d) (e:dctOf δ.S d = some kvs):∃ a xs,v = .ref a ∧ H a = some (.dK xs) ∧ RepK K F R xs kvs:=by
 cases h <;> simp only [dctOf] at e <;> try cases e
 ·rename_i h1 h2
  exact ⟨_,_,rfl,r.fh _ _ h1,h2⟩
 ·rename_i a i h1
  cases q:δ.S i with
  | none => rw [q] at e; cases e
  | some c =>
   rw [q] at e
   cases c with
   | dct fs' =>
    obtain rfl:=Option.some.inj e
    obtain ⟨b,z1,z2,xs,z3,z4⟩:=r.ce i _ q
    rw [h1] at z1
    obtain rfl:=Option.some.inj z1
    exact ⟨_,_,rfl,z3,z4⟩
   | _ => cases e
def dGet (Go Gb:DG):DG:=fun δ Q => Go δ fun o δ1 => Gb δ1 fun k δ2 => ∃ kvs key d,dctOf δ2.S o = some kvs ∧ keyD k = some key ∧ valD kvs key = some d ∧ Q d δ2
theorem d_get (hu:X.A.units + 1 < cLine) (ho:DE X o Go) (hi:DE X b Gb) (hs:NoSl b):DE X (.Subscript o b pos) (dGet Go Gb):=pe_of (pe_dget hu ho hi hs) fun σ H Q ⟨en,F,R,W,δ,Kt,r0,g0,k⟩ => by
 refine ⟨en,F,R,W,δ,_,r0,g0,?_⟩
 intro od δ1 F1 R1 W1 H1 vo g1 s1 u1 r1 o1
 refine ⟨en,F1,R1,W1,δ1,_,r1,g1,?_⟩
 rintro kd δ2 F2 R2 W2 H2 vk ⟨kvs,key,d,e1,e2,e3,g2⟩ s2 u2 r2 k2
 obtain ⟨a,xs,rfl,z1,z2⟩:=r2.dct (o1.mono s2 u2) e1
 obtain ⟨v,q1,q2⟩:=z2.val.1 d e3
 refine ⟨a,v,rfl,?_,k _ _ _ _ _ _ _ g2 (sT s1 s2) (u1.trans u2) r2 q2⟩
 rw [k2.key e2,← q1]
 exact DGet.k z1
def dPut (Go Gb Gv:DG):DSt:=fun DD δ => Gv δ fun d δ1 => Go δ1 fun o δ2 => Gb δ2 fun k δ3 => ∃ i kvs key,o = .ref i ∧ δ3.S i = some (.dct kvs) ∧ keyD k = some key ∧ kvs.length < sizeLine ∧ DD.nx ⟨δ3.vs,updS δ3.S i (.dct (putKD kvs key d))⟩
theorem s_dput (hu:X.A.units + 1 < cLine) (ho:DE X o Go) (hi:DE X b Gb) (hv:DE X v Gv) (hs:swapsWith v (some (.Subscript o b pos')) pos.line X.env = pure false:=by rfl):DStm X (.Assign [.Subscript o b pos'] v pos) (dPut Go Gb Gv):=ps_of (ps_dput hu ho hi hv hs) fun D σ H ⟨en,F,R,W,δ,DD,r0,g0,k,_⟩ => by
 refine ⟨en,F,R,W,δ,_,r0,g0,?_⟩
 intro d δ1 F1 R1 W1 H1 y g1 s1 u1 r1 y1
 refine ⟨en,F1,R1,W1,δ1,_,r1,g1,?_⟩
 intro od δ2 F2 R2 W2 H2 z g2 s2 u2 r2 z2
 refine ⟨en,F2,R2,W2,δ2,_,r2,g2,?_⟩
 rintro kd δ3 F3 R3 W3 H3 vk ⟨i,kvs,key,rfl,hS,e2,hl,g3⟩ s3 u3 r3 k3
 cases z2 with
 | ref hz =>
  obtain ⟨q,h1,⟨xs,h3,h4⟩,h5⟩:=r3.putCell (c' := .dct (putKD kvs key d)) hS
  rw [u3 _ _ hz] at h1
  obtain rfl:=Option.some.inj h1
  refine ⟨_,_,rfl,.inl ⟨xs,key,h3,k3.key e2,by rw [h4.length]; exact hl,rfl⟩,?_⟩
  exact k _ _ _ _ _ _ g3 (sT s1 (sT s2 s3)) (u1.trans (u2.trans u3)) (h5 _ ⟨_,upd_same,RepK.put (y1.mono (sT s2 s3) (u2.trans u3)) h4⟩)
def dPairs:List (DG × DG) → DS → (List (D × D) → DS → Prop) → Prop
 | [],δ,Q => Q [] δ
 | (gk,gv) :: r,δ,Q => gk δ fun k δ1 => gv δ1 fun v δ2 => dPairs r δ2 fun ps δ3 => Q ((k,v) :: ps) δ3
inductive RepP (K:PySem.W.Frag) (F:Hp) (R:List Addr):List (V × V) → List (D × D) → Prop
 | nil:RepP K F R [] []
 | cons {v u:V} {d e:D} {xs:List (V × V)} {ds:List (D × D)}:Rep K F R v d → Rep K F R u e → RepP K F R xs ds → RepP K F R ((v,u) :: xs) ((d,e) :: ds)
theorem t_pairs:∀ (gs:List (DG × DG)) {en:En} {F:Hp} {R:List Addr} {W:Own} {δ:DS} {σ:L2.St} {H:Hp} {Q:List (V × V) → Hp → Prop} {Kt:List (D × D) → DS → Prop},Rel K en F R W δ σ H → dPairs gs δ Kt →
  (∀ ps δ' F' R' W' H' vs,Kt ps δ' → Same F F' → Sub R R' → Rel K en F' R' W' δ' σ H' → RepP K F' R' vs ps → Q vs H') → tPairs (gs.map fun g => (tD K g.1,tD K g.2)) σ H Q
 | [],_,_,_,_,_,_,_,_,_,r0,g0,k => k _ _ _ _ _ _ _ g0 (fun _ _ e => e) (Sub.refl _) r0 .nil
 | (gk,gv) :: gs,en,F,R,W,δ,σ,H,Q,Kt,r0,g0,k => by
  refine ⟨en,F,R,W,δ,_,r0,g0,?_⟩
  intro kd δ1 F1 R1 W1 H1 x g1 s1 u1 r1 x1
  refine ⟨en,F1,R1,W1,δ1,_,r1,g1,?_⟩
  intro vd δ2 F2 R2 W2 H2 y g2 s2 u2 r2 y2
  refine t_pairs gs r2 g2 ?_
  intro ps δ3 F3 R3 W3 H3 vs g3 s3 u3 r3 p3
  exact k _ _ _ _ _ _ _ g3 (sT s1 (sT s2 s3)) (u1.trans (u2.trans u3)) r3 (.cons (x1.mono (sT s2 s3) (u2.trans u3)) (y2.mono s3 u3) p3)
def keysOf:List (D × D) → Option (List (Key × D))
 | [] => some []
 | (k,d) :: r => match keyD k,keysOf r with
  | some k,some y => some ((k,d) :: y)
  | _,_ => none
def mergeD (kvs more:List (Key × D)):List (Key × D):=more.foldl (fun acc kv => putKD acc kv.1 kv.2) kvs
theorem RepK.merge {F:Hp} {R:List Addr}:∀ {more:List (Key × V)} {dm:List (Key × D)},RepK K F R more dm → ∀ {xs:List (Key × V)} {ds:List (Key × D)},RepK K F R xs ds → RepK K F R (mergeK xs more) (mergeD ds dm)
 | _,_,.nil,_,_,h => h
 | _,_,.cons a b,_,_,h => by
  show RepK K F R (mergeK (putK _ _ _) _) (mergeD (putKD _ _ _) _)
  exact RepK.merge b (RepK.put a h)
theorem RepP.keys {F:Hp} {R:List Addr}:∀ {vs:List (V × V)} {ps:List (D × D)} {kvs:List (Key × D)},RepP K F R vs ps → keysOf ps = some kvs → ∃ xs,vs = xs.map (fun kv => (kV kv.1,kv.2)) ∧ RepK K F R xs kvs
 | _,[],kvs,.nil,e => by simp [keysOf] at e; subst e; exact ⟨[],rfl,.nil⟩
 | _,(k,d) :: ps,kvs,.cons h1 h2 h3,e => by
  simp only [keysOf] at e
  cases q:keyD k with
  | none => rw [q] at e; cases e
  | some key =>
   cases q2:keysOf ps with
   | none => rw [q,q2] at e; cases e
   | some y =>
    rw [q,q2] at e
    obtain rfl:=Option.some.inj e
    obtain ⟨xs,rfl,hx⟩:=h3.keys q2
    exact ⟨(key,_) :: xs,by rw [h1.key q]; rfl,.cons h2 hx⟩
def dDispC (gs:List (DG × DG)):DG:=fun δ Q => dPairs gs δ fun ps δ' => ∃ kvs,keysOf ps = some kvs ∧ kvs.length ≤ 15 ∧ ∀ i,δ'.S i = none → Q (.ref i) ⟨δ'.vs,updS δ'.S i (.dct (mergeD [] kvs))⟩
theorem Rel.still {en:En} {F F5:Hp} {R R5:List Addr} {W W5:Own} {δ δ5:DS} {σ σ5:L2.St} {H H5:Hp} {p:Addr} {o:HO} (h:Rel K en F R W δ σ H) (p1:H p = some o) (p2:W p = some .tmp) (p3:F p = none) (r5:Rel K (base F R W H) F5 R5 W5 δ5 σ5 H5):H5 p = some o ∧ W5 p = some .tmp ∧ F5 p = none:=by
 have nx:¬ (base F R W H).X0 p:=fun ⟨w,z,y⟩ => by rw [p2] at z; exact y (Option.some.inj z).symm
 refine ⟨r5.kp p _ p1 nx,r5.tp p p2,?_⟩
 cases q:F5 p with
 | none => rfl
 | some u =>
  rcases r5.fn p u q with ⟨z,y⟩ | y | y
  ·rw [show (base F R W H).F0 p = F p from rfl,p3] at y; cases y
  ·rw [show (base F R W H).H0 p = H p from rfl,p1] at y; cases y
  ·exact absurd y nx
theorem t_dispC {gs:List (DG × DG)}:∀ σ H Q,tD K (dDispC gs) σ H Q → tDisp (gs.map fun g => (tD K g.1,tD K g.2)) σ H Q:=by
 rintro σ H Q ⟨en,F,R,W,δ,Kt,r0,g0,k⟩ p hp
 have r1:=r0.newT (o := .dK []) hp
 refine t_pairs gs r1.rebase g0 ?_
 rintro ps δ' F' R' W' H' vs ⟨kvs,e1,hl,g1⟩ s1 u1 r2 p2
 obtain ⟨z1,z2,z3⟩:=r1.still upd_same setW_same (r0.fNone hp) r2
 obtain ⟨xs,rfl,hx⟩:=p2.keys e1
 refine ⟨z1,xs,rfl,by rw [hx.length]; exact hl,?_⟩
 have r3:=(r1.trans r2).put (o := .dK (mergeK [] xs)) (δ':=δ') z2 (.inl (r0.dm _ hp)) rfl (fun j s q => .inl ⟨by simp,q⟩) (fun j c q => .inl ⟨by simp,q⟩)
 obtain ⟨sn,r4,u4,at_⟩:=r3.newCell (c := .dct (mergeD [] kvs)) ⟨_,upd_same⟩ z2 (.inl (r0.dm _ hp)) z3 ⟨_,upd_same,hx.merge .nil⟩
 exact k _ _ _ _ _ _ _ (g1 _ sn) s1 (u1.trans u4) r4 (.ref at_)
def DPP (X:Cx) (pos:Pos) (keys:List (Option Expr)) (values:List Expr) (gs:List (DG × DG)):Prop:=PPs X pos keys values (gs.map fun g => (tD X.K g.1,tD X.K g.2))
theorem pp_nil:DPP X pos [] [] []:=pps_nil
theorem pp_cons {ks:List (Option Expr)} {vs:List Expr} {gs:List (DG × DG)} (hk:DE X a Ga) (hv:DE X b Gb) (hr:DPP X pos ks vs gs):DPP X pos (some a :: ks) (b :: vs) ((Ga,Gb) :: gs):=pps_cons hk hv hr
theorem d_dispC {keys:List (Option Expr)} {values:List Expr} {gs:List (DG × DG)} (h:DPP X pos keys values gs) (hall:keys.all (·.isSome) = true) (hl:keys.length = values.length) (h0:keys ≠ []) (h15:keys.length ≤ 15):DE X (.Dict keys values pos) (dDispC gs):=pe_of (pe_disp h hall hl h0 h15) t_dispC
def dCellL (Gn:DN):DG:=fun δ Q => Gn δ fun ds δ' => ∀ i,δ'.S i = none → Q (.ref i) ⟨δ'.vs,updS δ'.S i (.lst ds)⟩
theorem d_cellL (h:NE X e Gn):DE X e (dCellL Gn):=pe_of h fun σ H Q ⟨en,F,R,W,δ,Kt,r0,g0,k⟩ => by
 refine ⟨en,F,R,W,δ,_,r0,g0,?_⟩
 rintro ds δ1 F1 R1 W1 H1 p xs kd s1 u1 r1 hp f w n x1
 obtain ⟨sn,r4,u4,at_⟩:=r1.newCell (c := .lst ds) ⟨_,hp⟩ w (.inl n) f ⟨_,hp,x1⟩
 exact k _ _ _ _ _ _ _ (kd _ sn) s1 (u1.trans u4) r4 (.ref at_)
def dIxC (Go Gb:DG):DG:=fun δ Q => Go δ fun o δ1 => Gb δ1 fun y δ2 => ∃ i ds j d,o = .ref i ∧ δ2.S i = some (.lst ds) ∧ y = .int j ∧ atI ds j = some d ∧ Q d δ2
def dPutL (Go Gb Gv:DG):DSt:=fun DD δ => Gv δ fun d δ1 => Go δ1 fun o δ2 => Gb δ2 fun y δ3 => ∃ i ds j n,o = .ref i ∧ δ3.S i = some (.lst ds) ∧ y = .int j ∧ ixN ds.length j = some n ∧ DD.nx ⟨δ3.vs,updS δ3.S i (.lst (ds.set n d))⟩
def tyD:D → Option String
 | .non => some "NoneType"
 | .bl _ => some "bool"
 | .int _ => some "int"
 | .str _ => some "str"
 | .tup _ => some "tuple"
 | .lst _ => some "list"
 | .dct _ => some "dict"
 | _ => none
theorem sqT_ty {H:Hp} {a:Addr} {xs:List V} (h:SqT K H a xs):TyX K H (.ref a) (.type "tuple"):=by
 rcases h with (h | ⟨o,h⟩) | ⟨o,its,n,e,c,_⟩
 ·exact .base (.tup h)
 ·exact .fTuple h
 ·exact .kTuple e c
theorem Rep.ty' {F:Hp} {R:List Addr} {H:Hp} {v:V} {d:D} {t:String} (h:Rep K F R v d) (s:Same F H) (e:tyD d = some t):TyX K H v (.type t):=by
 cases h <;> simp [tyD] at e <;> subst e
 ·exact .base .non
 ·exact .base (.bl _)
 ·exact .base (.int _)
 ·exact .base (.str _)
 ·rename_i h1 h2; exact sqT_ty (same_t s h1)
 ·rename_i h1 h2; exact .base (.lst (s _ _ h1))
 ·rename_i h1 h2; exact .base (.dK (s _ _ h1))
def dIsB (T:String) (G:DG):DG:=fun δ Q => G δ fun d δ' => ∃ t b,tyD d = some t ∧ kitB t T = some b ∧ Q (.bl b) δ'
theorem d_isB {T:String} (hg:Gl X "isinstance") (hm:X.mg "isinstance" = none) (he:DE X e G) (ht:PE X b (tC (.ty T))) (hs:starEach [e,b] X.env = (false,eval e X.env) :: starEach [b] X.env:=by rfl) (hs2:starEach [b] X.env = (false,eval b X.env) :: starEach [] X.env:=by rfl) (hpl:(backTo pos (starEach [b] X.env)).any (·.1) = false:=by rfl) :
  DE X (.Call (.Name "isinstance" p) [e,b] [] pos) (dIsB T G):=pe_of (pe_callB (call_isB T) hg hm (by decide +kernel) (pa_cons he (pa_cons ht pa_nil hs2) hs) (by decide) (by decide) hs hpl) fun σ H Q ⟨en,F,R,W,δ,Kt,r0,g0,k⟩ => by
 refine ⟨en,F,R,W,δ,_,r0,g0,?_⟩
 rintro d δ1 F1 R1 W1 H1 v ⟨t,b,e1,e2,g1⟩ s1 u1 r1 v1
 exact ⟨v,t,b,rfl,v1.ty' r1.fh e1,e2,k _ _ _ _ _ _ _ g1 s1 u1 r1 (.bl _)⟩
structure OwnC (K:PySem.W.Frag) (C:Addr):Prop where
 cl:Cls K C
 ha:PySem.W.findIn K (.ref C) "__class__" = some (some (.builtin "object.__class__"))
 hn:PySem.W.specialIn K (.builtin "object.__class__") "__get__" = some (some (.builtin "getset_descriptor.__get__"))
 tk:PySem.W.takesIn K (.builtin "object.__class__") = some true
 hm:PySem.W.mroIn K C (.type "object") = some true
def tyO (S:Sto) (C1:Addr) (d:D):Option Value :=
 match tyD d with
 | some t => some (.type t)
 | none => if (objFs S C1 d).isSome = true then some (.ref C1) else none
theorem Rel.ty {en:En} {F:Hp} {R:List Addr} {W:Own} {δ:DS} {σ:L2.St} {H:Hp} {v:V} {d:D} {C1:Addr} {t:Value} (r:Rel K en F R W δ σ H) (o:OwnC K C1) (h:Rep K F R v d) (e:tyO δ.S C1 d = some t):TyX K H v t:=by
 unfold tyO at e
 split at e
 ·rename_i t' q
  obtain rfl:=Option.some.inj e
  exact h.ty' r.fh q
 ·split at e
  ·rename_i q
   obtain rfl:=Option.some.inj e
   obtain ⟨fs,q⟩:=Option.isSome_iff_exists.mp q
   obtain ⟨a,dx,xs,rfl,h1,h2⟩:=r.obj h q
   exact .base (.ins h1 o.cl o.ha o.hn o.tk o.hm)
  ·cases e
def dIsO (K:PySem.W.Frag) (C1 C:Addr) (G:DG):DG:=fun δ Q => G δ fun d δ' => ∃ t b,tyO δ'.S C1 d = some t ∧ PySem.W.kitOne K t (.ref C) = some b ∧ Q (.bl b) δ'
theorem d_isO {C1:Addr} (oc:OwnC X.K C1) (hg:Gl X "isinstance") (hm:X.mg "isinstance" = none) (he:DE X e G) (ht:PE X b (tC (.ref C))) (hs:starEach [e,b] X.env = (false,eval e X.env) :: starEach [b] X.env:=by rfl) (hs2:starEach [b] X.env = (false,eval b X.env) :: starEach [] X.env:=by rfl) (hpl:(backTo pos (starEach [b] X.env)).any (·.1) = false:=by rfl) :
  DE X (.Call (.Name "isinstance" p) [e,b] [] pos) (dIsO X.K C1 C G):=pe_of (pe_callB (call_isO C) hg hm (by decide +kernel) (pa_cons he (pa_cons ht pa_nil hs2) hs) (by decide) (by decide) hs hpl) fun σ H Q ⟨en,F,R,W,δ,Kt,r0,g0,k⟩ => by
 refine ⟨en,F,R,W,δ,_,r0,g0,?_⟩
 rintro d δ1 F1 R1 W1 H1 v ⟨t,b,e1,e2,g1⟩ s1 u1 r1 v1
 exact ⟨v,t,b,rfl,r1.ty oc v1 e1,e2,k _ _ _ _ _ _ _ g1 s1 u1 r1 (.bl _)⟩
variable {k j:Nat} {Φ:Ph} {C1:Addr}
def dCmpO (K:PySem.W.Frag) (C C1:Addr) (Φ:Ph) (neg:Bool → Bool) (Ga Gb:DG):DG:=fun δ Q => Ga δ fun x δ1 => Gb δ1 fun y δ2 => (∃ fs,objFs δ2.S C x = some fs) ∧ (∃ t,tyO δ2.S C1 y = some t ∧ PySem.W.notFirst K C t = true) ∧ Φ [.val x,.val y] δ2.S fun d S' => ∃ b,d = .bl b ∧ Q (.bl (neg b)) ⟨δ2.vs,S'⟩
def dStrO (C:Addr) (Φ:Ph) (G:DG):DG:=fun δ Q => G δ fun d δ1 => (∃ fs,objFs δ1.S C d = some fs) ∧ Φ [.val d] δ1.S fun z S' => ∃ t,z = .str t ∧ Q (.str t) ⟨δ1.vs,S'⟩
theorem d_strO (c:G1.Met X.prog X.w X.K X.mg X.base k C "__str__" (spD X.K Φ)) (hr:Room j X.A) (hk:k + 2 ≤ j) (hg:Gl X "str") (hm:X.mg "str" = none) (he:DE X e G) (hs:starEach [e] X.env = (false,eval e X.env) :: starEach [] X.env:=by rfl) (hpl:(backTo pos (starEach [] X.env)).any (·.1) = false:=by rfl) :
  DE X (.Call (.Name "str" p) [e] [] pos) (dStrO C Φ G):=pe_of (pe_callTy (G1.call_strO c hr hk) hg hm (by decide +kernel) (pa_cons he pa_nil hs) (by decide) (by decide) hs hpl) fun σ H Q ⟨en,F,R,W,δ,Kt,r0,g0,kk⟩ => by
 refine ⟨en,F,R,W,δ,_,r0,g0,?_⟩
 rintro d δ1 F1 R1 W1 H1 v ⟨⟨fs,hf⟩,g1⟩ s1 u1 r1 v1
 obtain ⟨a,dx,xs,rfl,h1,h2⟩:=r1.obj v1 hf
 refine ⟨a,dx,xs,rfl,h1,?_⟩
 refine t_spD (Kt:=fun d δ' => ∃ t,d = .str t ∧ Kt (.str t) δ') (as:=[.val d]) r1 (.cons v1 .nil) rfl g1 ?_
 rintro d δ' F' R' W' H' v ⟨b,rfl,kd⟩ s u r' v'
 cases v'
 exact ⟨b,rfl,kk _ _ _ _ _ _ _ kd (sT s1 s) (u1.trans u) r' (.str _)⟩
end
end
section
inductive Src where
 | p (i:Nat) | k (i:Nat) | d (i:Nat)
def pick {α:Type} (us ds ws:List α):Src → Option α
 | .p i => us[i]?
 | .k i => ws[i]?
 | .d i => ds[i]?
def consO {α:Type}:Option α → List α → List α
 | none,l => l
 | some x,l => x :: l
def arr {α:Type}:List Src → List α → List α → List α → List α
 | [],_,_,_ => []
 | s :: r,us,ds,ws => consO (pick us ds ws s) (arr r us ds ws)
theorem paired_get {α β:Type} {P:α → β → Prop}:∀ {xs:List α} {ys:List β} (i:Nat),Paired P xs ys → (xs[i]? = none ∧ ys[i]? = none) ∨ ∃ x y,xs[i]? = some x ∧ ys[i]? = some y ∧ P x y
 | _,_,_,.nil => .inl ⟨rfl,rfl⟩
 | _,_,0,.cons a _ => .inr ⟨_,_,rfl,rfl,a⟩
 | _,_,i + 1,.cons _ b => by simpa using paired_get i b
theorem arr_paired {α β:Type} {P:α → β → Prop} {us ds ws:List α} {us' ds' ws':List β} (a:Paired P us us') (b:Paired P ds ds') (c:Paired P ws ws'):∀ src:List Src,Paired P (arr src us ds ws) (arr src us' ds' ws')
 | [] => .nil
 | s :: src => by
  have ih:=arr_paired a b c src
  have h:(pick us ds ws s = none ∧ pick us' ds' ws' s = none) ∨ ∃ u v,pick us ds ws s = some u ∧ pick us' ds' ws' s = some v ∧ P u v:=by
   cases s with
   | p i => exact paired_get i a
   | k i => exact paired_get i c
   | d i => exact paired_get i b
  show Paired P (consO (pick us ds ws s) (arr src us ds ws)) (consO (pick us' ds' ws' s) (arr src us' ds' ws'))
  rcases h with ⟨e1,e2⟩ | ⟨u,v,e1,e2,p⟩
  ·rw [e1,e2]; exact ih
  ·rw [e1,e2]; exact .cons p ih
theorem arAll_p {K:PySem.W.Frag} {F:Hp} {R:List Addr} {σ:L2.St}:∀ {vs:List V} {as:List Ar},ArAll K F R σ vs as → Paired (ArAt K F R σ) vs as
 | _,_,.nil => .nil
 | _,_,.cons a b => .cons a (arAll_p b)
theorem p_arAll {K:PySem.W.Frag} {F:Hp} {R:List Addr} {σ:L2.St}:∀ {vs:List V} {as:List Ar},Paired (ArAt K F R σ) vs as → ArAll K F R σ vs as
 | _,_,.nil => .nil
 | _,_,.cons a b => .cons a (p_arAll b)
theorem repAll_ar {K:PySem.W.Frag} {F:Hp} {R:List Addr} {σ:L2.St}:∀ {vs:List V} {ds:List D},RepAll K F R vs ds → ArAll K F R σ vs (ds.map Ar.val)
 | _,_,.nil => .nil
 | _,_,.cons a b => .cons a (repAll_ar b)
theorem ArAll.length {K:PySem.W.Frag} {F:Hp} {R:List Addr} {σ:L2.St}:∀ {vs:List V} {as:List Ar},ArAll K F R σ vs as → vs.length = as.length
 | _,_,.nil => rfl
 | _,_,.cons a b => by simp [ArAll.length b]
theorem arr_ar {K:PySem.W.Frag} {F:Hp} {R:List Addr} {σ:L2.St} {us ds ws:List V} {as bs cs:List Ar} (a:ArAll K F R σ us as) (b:ArAll K F R σ ds bs) (c:ArAll K F R σ ws cs) (src:List Src):ArAll K F R σ (arr src us ds ws) (arr src as bs cs) :=
 p_arAll (arr_paired (arAll_p a) (arAll_p b) (arAll_p c) src)
section
variable {P:Program} {w:World} {K:PySem.W.Frag} {mg:Str → Option Value} {base:Heap}
theorem dcalN {k:Nat} {x:Str} {st:Stmt} {N ps:List Str} {Φ:Ph} {dvs:List V} (D:G1.DfnD K mg x st dvs) (S:FnScope N ps (defScope st)) (hl:∀ args S Kt,Φ args S Kt → args.length = ps.length)
  (body:∀ (f:Addr) (cdv:Value) (A:Around) (outer:List Env) (s:Shared) (H:Hp) (E:XK),Room k (A.deeper (envOfC x (defScope st) s.heap.objs.size f cdv)) →
   ∃ G,DSts (cxOf CX0 P w K mg base N x (defScope st) f cdv A outer s H E).nox (defBody st) G ∧ ∀ args S Kt,Φ args S Kt → G (endsD Kt) ⟨startD N.length args,S⟩)
  (n:Nat) (ks:List Str) (src:List Src) (hd:dvs ≠ [])
  (h:∀ (T:Addr) (kV doc pm:Value) (an:Option Addr) (cdv ct:Value) (us its ws:List Value),us.length = n → its.length = dvs.length → ws.length = ks.length →
   ∃ k,bindArgs (PySem.W.fnOf x x (defArgs st) (defBody st) (defScope st) (.ref T) kV doc pm an cdv ct) ⟨us,ks.zip ws⟩ = seqItems? (.ref T) >>= k ∧ k (some its.toArray) = pure (ps.zip (arr src us its ws))) :
  G1.CalN P w K mg base (k + 1) x n ks (fun vs zs => arr src vs dvs zs) (spD K Φ) :=
 G1.calN D S (spD_len hl) (fun f cdv A outer s H vs Q E hr h => by
  obtain ⟨G,hG,hw⟩:=body f cdv A outer s H E hr
  exact body_of rfl hG hw h) n ks (fun us ds ws => arr src us ds ws) hd (fun a b c => arr_paired a b c src) h
theorem dkmkN {k:Nat} {x qual:Str} {C:Addr} {st:Stmt} {N ps:List Str} {Φ:Ph} {dvs:List V} (D:G1.MthN K C "__init__" qual st dvs) (Kc:Kls K mg x C) (S:FnScope N ps (defScope st)) (hl:∀ args S Kt,Φ args S Kt → args.length = ps.length)
  (body:∀ (f:Addr) (cdv:Value) (A:Around) (outer:List Env) (s:Shared) (H:Hp) (E:XK),Room k (A.deeper (envOfC qual (defScope st) s.heap.objs.size f cdv)) →
   ∃ G,DSts (cxOf CX0 P w K mg base N qual (defScope st) f cdv A outer s H E).nox (defBody st) G ∧ ∀ args S Kt,Φ args S Kt → G (endsD Kt) ⟨startD N.length args,S⟩)
  (n:Nat) (ks:List Str) (src:List Src) (hd:dvs ≠ [])
  (h:∀ (T:Addr) (kV doc pm:Value) (an:Option Addr) (cdv ct:Value) (us its ws:List Value),us.length = n + 1 → its.length = dvs.length → ws.length = ks.length →
   ∃ k,bindArgs (PySem.W.fnOf "__init__" qual (defArgs st) (defBody st) (defScope st) (.ref T) kV doc pm an cdv ct) ⟨us,ks.zip ws⟩ = seqItems? (.ref T) >>= k ∧ k (some its.toArray) = pure (ps.zip (arr src us its ws))) :
  G1.KMk P w K mg base (k + 1) x C n ks (fun vs zs => arr src vs dvs zs) (spD K Φ) :=
 G1.kmkN D Kc S (spD_len hl) (fun f cdv A outer s H vs Q E hr h => by
  obtain ⟨G,hG,hw⟩:=body f cdv A outer s H E hr
  exact body_of rfl hG hw h) n ks (fun us ds ws => arr src us ds ws) hd (fun a b c => arr_paired a b c src) h
theorem dcalR {k:Nat} {x pv:Str} {st:Stmt} {N ps:List Str} {Φ:Ph} (D:Dfn K mg x st) (S:FnScope N (ps ++ [pv]) (defScope st))
  (hb:∀ (kV doc pm:Value) (an:Option Addr) (cdv ct:Value) (us rest:List Value),us.length = ps.length → bindArgs (PySem.W.fnOf x x (defArgs st) (defBody st) (defScope st) .none kV doc pm an cdv ct) ⟨us ++ rest,[]⟩ = (newTuple rest >>= fun t => pure (ps.zip us ++ [(pv,t)])))
  (body:∀ (f:Addr) (cdv:Value) (A:Around) (outer:List Env) (s:Shared) (H:Hp) (E:XK),Room k (A.deeper (envOfC x (defScope st) s.heap.objs.size f cdv)) →
   ∃ G,DSts (cxOf CX0 P w K mg base N x (defScope st) f cdv A outer s H E).nox (defBody st) G ∧ ∀ args S Kt,Φ args S Kt → G (endsD Kt) ⟨startD N.length args,S⟩) :
  G1.CalR P w K mg base (k + 1) x (G1.spStar ps.length (spD K Φ)) :=
 G1.calR D S hb fun f cdv A outer s H vs Q E hr h => by
  obtain ⟨G,hG,hw⟩:=body f cdv A outer s H E hr
  exact body_of rfl hG hw h
end
section
variable {X:Cx} {k j n:Nat} {C:Addr} {x m:Str} {Φ:Ph} {p pos apos kpos:Pos} {e o:Expr} {es:List Expr} {G Go:DG} {Gr Gk:DAr} {kws:List Keyword} {ks:List Str} {src:List Src} {dvs:List V} {dds:List D} {nm:Option Str} {K:PySem.W.Frag}
def DKw (X:Cx) (kws:List Keyword) (G:DAr):Prop:=PK X kws (tAr X.K G)
theorem pk_of {t t':TA} (h:PK X kws t) (mm:∀ σ H Q,t' σ H Q → t σ H Q):PK X kws t':=⟨fun pos pins s σ H Q I q => h.run pos pins s σ H Q I (mm σ H Q q)⟩
theorem k_nil:DKw X [] aNil:=pk_of pk_nil fun σ H Q ⟨en,F,R,W,δ,Kt,r0,g0,k⟩ => k _ _ _ _ _ _ _ g0 (fun _ _ e => e) (fun _ _ e => e) r0 .nil
def dCallN (n m:Nat) (src:List Src) (dds:List D) (Φ:Ph) (Gr Gk:DAr):DG:=fun δ Q => Gr δ fun as δ1 => Gk δ1 fun bs δ2 => as.length = n ∧ bs.length = m ∧ ∃ args,lendAll δ2 (arr src as (dds.map Ar.val) bs) = some args ∧ Φ args δ2.S fun d S' => Q d ⟨δ2.vs,S'⟩
theorem t_callN {m:Nat} (hd:∀ F R,RepAll K F R dvs dds):∀ σ H Q,tD K (dCallN n m src dds Φ Gr Gk) σ H Q → tCallN n m (spD K Φ) (fun vs zs => arr src vs dvs zs) E0 (tAr K Gr) (tAr K Gk) σ H Q:=by
 rintro σ H Q ⟨en,F,R,W,δ,Kt,r0,g0,kk⟩
 refine ⟨en,F,R,W,δ,_,r0,g0,?_⟩
 intro as δ1 F1 R1 W1 H1 vs g1 s1 u1 r1 x1
 refine ⟨en,F1,R1,W1,δ1,_,r1,g1,?_⟩
 rintro bs δ2 F2 R2 W2 H2 zs ⟨l1,l2,args,hl,g2⟩ s2 u2 r2 x2
 refine ⟨x1.length.trans l1,x2.length.trans l2,?_⟩
 exact t_spD (Kt:=Kt) r2 (arr_ar (x1.mono s2 u2) (repAll_ar (hd F2 R2)) x2 src) hl g2 fun d δ' F' R' W' H' v kd s u r' v' => kk _ _ _ _ _ _ _ kd (sT s1 (sT s2 s)) (u1.trans (u2.trans u)) r' v'
theorem d_callN (c:G1.CalN X.prog X.w X.K X.mg X.base k x n ks (fun vs zs => arr src vs dvs zs) (spD X.K Φ)) (hd:∀ F R,RepAll X.K F R dvs dds) (hr:Room j X.A) (hk:k ≤ j) (hg:Gl X x) (ha:DA X (e :: es) Gr) (hkw:DKw X kws Gk)
  (hall:(backToKw pos (keywordEach kws X.env)).all (·.1.isSome) = true:=by rfl) (hks:(backToKw pos (keywordEach kws X.env)).filterMap (·.1) = ks:=by rfl) (hdb:(x == ("__debug__" : Str)) = false:=by decide)
  (he:starEach (e :: es) X.env = (false,eval e X.env) :: starEach es X.env:=by rfl) (hpl:((backTo pos (starEach (e :: es) X.env)).any (·.1) || (backToKw pos (keywordEach kws X.env)).any (·.1.isNone)) = false:=by rfl) :
  DE X (.Call (.Name x p) (e :: es) kws pos) (dCallN n ks.length src dds Φ Gr Gk):=pe_of (G1.pe_cN c hr hk hg ha hkw hall hks hdb he hpl) (t_callN hd)
def dMakeN (n m:Nat) (src:List Src) (dds:List D) (C:Addr) (Φ:Ph) (Gr Gk:DAr):DG:=fun δ Q => Gr δ fun as δ1 => Gk δ1 fun bs δ2 => as.length = n ∧ bs.length = m ∧ ∀ i,δ2.S i = none → ∃ args,lendAll ⟨δ2.vs,updS δ2.S i (.ins C [])⟩ (arr src (.val (.ref i) :: as) (dds.map Ar.val) bs) = some args ∧ Φ args (updS δ2.S i (.ins C [])) fun d S' => d = .non ∧ ∃ fs,S' i = some (.ins C fs) ∧ Q (.obj C fs) ⟨δ2.vs,delS S' i⟩
theorem t_makeG {en:En} {F:Hp} {R:List Addr} {W:Own} {δ:DS} {σ:L2.St} {H:Hp} {mk:Nat → List Ar} {vs:Addr → List V} {Q:VK} {E:XK} {Kt:D → DS → Prop} (r:Rel K en F R W δ σ H) (ha:∀ y,ArAll K F (R ++ [y]) σ (vs y) (mk R.length))
  (g:∀ i,δ.S i = none → ∃ args,lendAll ⟨δ.vs,updS δ.S i (.ins C [])⟩ (mk i) = some args ∧ Φ args (updS δ.S i (.ins C [])) fun d S' => d = .non ∧ ∃ fs,S' i = some (.ins C fs) ∧ Kt (.obj C fs) ⟨δ.vs,delS S' i⟩)
  (k:∀ d δ' F' R' W' H' v,Kt d δ' → Same F F' → Sub R R' → Rel K en F' R' W' δ' σ H' → Rep K F' R' v d → Q v H') :
  ∀ y dx,H y = none → H dx = none → dx ≠ y → spD K Φ (vs y) (upd (upd H dx (.own y)) y (.ins C dx [])) (fun v H3 => v = .non ∧ Q (.ref y) H3) E:=by
 intro y dx n1 n2 ne
 obtain ⟨sn,W',r1,u1,at_⟩:=r.made (C:=C) n1 n2 ne
 obtain ⟨args,hl,g1⟩:=g _ sn
 refine t_spD (Kt:=fun d δ' => d = .non ∧ ∃ fs,δ'.S R.length = some (.ins C fs) ∧ Kt (.obj C fs) ⟨δ'.vs,delS δ'.S R.length⟩) r1 (ha y) hl g1 ?_
 rintro d δ' F' R' W2 H' v ⟨rfl,fs,e,kd⟩ s u r' v'
 cases v'
 obtain ⟨q,F2,W3,e1,s2,r2,p2⟩:=r'.frzCell e
 have:q = y:=by
  have:=u _ _ at_
  rw [e1] at this
  exact Option.some.inj this
 subst this
 exact ⟨rfl,k _ _ _ _ _ _ _ kd (sT s s2) (u1.trans u) r2 p2⟩
theorem sub_app {R:List Addr} {y:Addr}:Sub R (R ++ [y]):=fun i a e => by rw [List.getElem?_append_left (List.getElem?_eq_some_iff.mp e).1]; exact e
theorem t_makeN {m:Nat} (hd:∀ F R,RepAll K F R dvs dds):∀ σ H Q,tD K (dMakeN n m src dds C Φ Gr Gk) σ H Q → tMakeK C n m (spD K Φ) (fun vs zs => arr src vs dvs zs) E0 (tAr K Gr) (tAr K Gk) σ H Q:=by
 rintro σ H Q ⟨en,F,R,W,δ,Kt,r0,g0,kk⟩
 refine ⟨en,F,R,W,δ,_,r0,g0,?_⟩
 intro as δ1 F1 R1 W1 H1 vs g1 s1 u1 r1 x1
 refine ⟨en,F1,R1,W1,δ1,_,r1,g1,?_⟩
 rintro bs δ2 F2 R2 W2 H2 zs ⟨l1,l2,g2⟩ s2 u2 r2 x2
 refine ⟨x1.length.trans l1,x2.length.trans l2,?_⟩
 exact t_makeG (Kt:=Kt) (mk:=fun i => arr src (.val (.ref i) :: as) (dds.map Ar.val) bs) (vs:=fun y => arr src (.ref y :: vs) dvs zs) r2
  (fun y => arr_ar (.cons (show ArAt K F2 (R2 ++ [y]) σ (.ref y) (.val (.ref R2.length)) from .ref (by simp)) (x1.mono s2 (u2.trans sub_app))) (repAll_ar (hd _ _)) (x2.mono (fun _ _ e => e) sub_app) src) g2
  fun d δ' F' R' W' H' v kd s u r' v' => kk _ _ _ _ _ _ _ kd (sT s1 (sT s2 s)) (u1.trans (u2.trans u)) r' v'
theorem d_makeN (c:G1.KMk X.prog X.w X.K X.mg X.base k x C n ks (fun vs zs => arr src vs dvs zs) (spD X.K Φ)) (hd:∀ F R,RepAll X.K F R dvs dds) (hr:Room j X.A) (hk:k + 1 ≤ j) (hg:Gl X x) (ha:DA X (e :: es) Gr) (hkw:DKw X kws Gk)
  (hall:(backToKw pos (keywordEach kws X.env)).all (·.1.isSome) = true:=by rfl) (hks:(backToKw pos (keywordEach kws X.env)).filterMap (·.1) = ks:=by rfl) (hdb:(x == ("__debug__" : Str)) = false:=by decide)
  (he:starEach (e :: es) X.env = (false,eval e X.env) :: starEach es X.env:=by rfl) (hpl:((backTo pos (starEach (e :: es) X.env)).any (·.1) || (backToKw pos (keywordEach kws X.env)).any (·.1.isNone)) = false:=by rfl) :
  DE X (.Call (.Name x p) (e :: es) kws pos) (dMakeN n ks.length src dds C Φ Gr Gk):=pe_of (G1.pe_kmk c hr hk hg ha hkw hall hks hdb he hpl) (t_makeN hd)
def dCallR (n:Nat) (Φ:Ph) (Gr:DAr):DG:=fun δ Q => Gr δ fun as δ1 => ∃ pre ds,n ≤ as.length ∧ lendAll δ1 (as.take n) = some pre ∧ valsOf (as.drop n) = some ds ∧ ds.length ≤ sizeLine ∧ Φ (pre ++ [.val (.tup ds)]) δ1.S fun d S' => Q d ⟨δ1.vs,S'⟩
theorem ArAll.take {F:Hp} {R:List Addr} {σ:L2.St}:∀ {vs:List V} {as:List Ar} (n:Nat),ArAll K F R σ vs as → ArAll K F R σ (vs.take n) (as.take n)
 | _,_,0,_ => .nil
 | _,_,_ + 1,.nil => .nil
 | _,_,n + 1,.cons a b => .cons a (ArAll.take n b)
theorem ArAll.drop {F:Hp} {R:List Addr} {σ:L2.St}:∀ {vs:List V} {as:List Ar} (n:Nat),ArAll K F R σ vs as → ArAll K F R σ (vs.drop n) (as.drop n)
 | _,_,0,h => h
 | _,_,_ + 1,.nil => .nil
 | _,_,n + 1,.cons a b => ArAll.drop n b
theorem ArAll.append {F:Hp} {R:List Addr} {σ:L2.St}:∀ {vs us:List V} {as bs:List Ar},ArAll K F R σ vs as → ArAll K F R σ us bs → ArAll K F R σ (vs ++ us) (as ++ bs)
 | _,_,_,_,.nil,h => h
 | _,_,_,_,.cons a b,h => .cons a (ArAll.append b h)
theorem lendAll_app {δ:DS} {d:D}:∀ {as:List Ar} {pre:List Sl},lendAll δ as = some pre → lendAll δ (as ++ [.val d]) = some (pre ++ [.val d])
 | [],pre,h => by simp [lendAll] at h; subst h; simp [lendAll,lend]
 | a :: as,pre,h => by
  simp only [lendAll] at h
  cases q:lend δ a with
  | none => rw [q] at h; cases h
  | some y =>
   cases q2:lendAll δ as with
   | none => rw [q,q2] at h; cases h
   | some z =>
    rw [q,q2] at h
    obtain rfl:=Option.some.inj h
    simp [lendAll,q,lendAll_app q2]
theorem t_star {n:Nat} {en:En} {F:Hp} {R:List Addr} {W:Own} {δ:DS} {σ:L2.St} {H:Hp} {as:List Ar} {vs:List V} {pre:List Sl} {ds:List D} {Q:VK} {E:XK} {Kt:D → DS → Prop} (r:Rel K en F R W δ σ H) (ha:ArAll K F R σ vs as) (hn:n ≤ as.length) (hl:lendAll δ (as.take n) = some pre) (hv:valsOf (as.drop n) = some ds) (hz:ds.length ≤ sizeLine) (g:Φ (pre ++ [.val (.tup ds)]) δ.S fun d S' => Kt d ⟨δ.vs,S'⟩)
  (k:∀ d δ' F' R' W' H' v,Kt d δ' → Same F F' → Sub R R' → Rel K en F' R' W' δ' σ H' → Rep K F' R' v d → Q v H'):G1.spStar n (spD K Φ) vs H Q E:=by
 have hx:=(ha.drop n).vals hv
 refine ⟨vs.take n,vs.drop n,(List.take_append_drop n vs).symm,by rw [List.length_take,ha.length]; omega,by rw [hx.length]; exact hz,fun q hq => ?_⟩
 obtain ⟨r1,s1⟩:=r.newF (o := .tup (vs.drop n)) hq
 refine t_spD (Kt:=Kt) (as:=as.take n ++ [.val (.tup ds)]) r1 (((ha.take n).mono s1 (Sub.refl _)).append (.cons (show ArAt K _ R σ (.ref q) (.val (.tup ds)) from .tup sqT_new (hx.mono s1 (Sub.refl _))) .nil)) (lendAll_app hl) g ?_
 exact fun d δ' F' R' W' H' v kd s u r' v' => k _ _ _ _ _ _ _ kd (sT s1 s) u r' v'
theorem d_callR {n:Nat} (c:G1.CalR X.prog X.w X.K X.mg X.base k x (G1.spStar n (spD X.K Φ))) (hr:Room j X.A) (hk:k ≤ j) (hg:Gl X x) (ha:DA X (e :: es) Gr)
  (hdb:(x == ("__debug__" : Str)) = false:=by decide) (he:starEach (e :: es) X.env = (false,eval e X.env) :: starEach es X.env:=by rfl) (hpl:(backTo pos (starEach es X.env)).any (·.1) = false:=by rfl) :
  DE X (.Call (.Name x p) (e :: es) [] pos) (dCallR n Φ Gr):=pe_of (G1.pe_cR c hr hk hg ha hdb he hpl) fun σ H Q ⟨en,F,R,W,δ,Kt,r0,g0,kk⟩ => by
 refine ⟨en,F,R,W,δ,_,r0,g0,?_⟩
 rintro as δ1 F1 R1 W1 H1 vs ⟨pre,ds,hn,hl,hv,hz,g1⟩ s1 u1 r1 x1
 exact t_star (Kt:=Kt) r1 x1 hn hl hv hz g1 fun d δ' F' R' W' H' v kd s u r' v' => kk _ _ _ _ _ _ _ kd (sT s1 s) (u1.trans u) r' v'
def gMulS:G2
 | .str z,.int n,Q => MulOk z n ∧ Q (.str (Txt.mul z n))
 | _,_,_ => False
theorem d_mulS {a b:Expr} {Ga Gb:DG} (ha:DE X a Ga) (hb:DE X b Gb):DE X (.BinOp a .Mult b pos) (dOp gMulS Ga Gb):=d_op op_mulS (by
 intro F R H x y dx dy Q Kt s hx hy hg k
 cases hx <;> cases hy <;> simp only [gMulS] at hg
 exact ⟨_,_,rfl,rfl,hg.1,k _ _ hg.2 (.str _)⟩) ha hb
end
end
section
theorem szle (n:Nat):(n ≤ sizeLine) = (n ≤ 16777216):=rfl
theorem szlt (n:Nat):(n < sizeLine) = (n < 16777216):=rfl
theorem atI_map {α β:Type} (f:α → β) (l:List α) (i:Int):atI (l.map f) i = (atI l i).map f:=by
 unfold atI
 rw [List.length_map]
 cases ixN l.length i with
 | none => rfl
 | some j => simp
theorem inj_map {α β:Type} {f:α → β} (h:∀ a b,f a = f b → a = b):∀ l m:List α,l.map f = m.map f → l = m
 | [],[],_ => rfl
 | [],_ :: _,e => by simp at e
 | _ :: _,[],e => by simp at e
 | a :: l,b :: m,e => by
  simp only [List.map_cons,List.cons.injEq] at e
  rw [h a b e.1,inj_map h l m e.2]
theorem strs_eq (l m:List Str):(l.map D.str = m.map D.str) = (l = m):=propext ⟨inj_map (fun _ _ e => by injection e) l m,fun e => by rw [e]⟩
theorem bls_eq (l m:List Bool):(l.map D.bl = m.map D.bl) = (l = m):=propext ⟨inj_map (fun _ _ e => by injection e) l m,fun e => by rw [e]⟩
theorem flats_strs (l:List Str):flats' (l.map D.str) = some (l.map V.str):=by
 induction l with
 | nil => rfl
 | cons a l ih => simp [flats',flat1,ih]
theorem inV_strs (x:Str) (l:List Str):inV (.str x) (l.map V.str) = decide (x ∈ l):=by
 induction l with
 | nil => simp [inV]
 | cons a l ih =>
  unfold inV at ih ⊢
  rw [List.map_cons,List.any_cons,ih]
  by_cases h:a = x
  ·subst h; simp [eqV]
  ·have:¬ x = a:=fun e => h e.symm
   simp [eqV,h,this]
theorem fld_obj (S:Sto) (C:Addr) (f:Str) (fs:List (Str × D)):fld S C f (.obj C fs) = fs.lookup f:=if_pos rfl
theorem objFs_obj (S:Sto) (C:Addr) (fs:List (Str × D)):objFs S C (.obj C fs) = some fs:=if_pos rfl
theorem cutD_map {α:Type} (f:α → D) (l:List α) (a b:Option Int):cutD (l.map f) a b = ((l.drop (HT.sIx l.length 0 a)).take (HT.sIx l.length l.length b - HT.sIx l.length 0 a)).map f:=by
 unfold cutD; rw [List.length_map,List.map_take,List.map_drop]
theorem ex_map {α β:Type} {p:α → Prop} {f:α → β} {q:β → Prop}:(∃ d,(∃ a,p a ∧ f a = d) ∧ q d) = ∃ a,p a ∧ q (f a):=propext ⟨fun ⟨d,⟨a,h1,h2⟩,h3⟩ => ⟨a,h1,h2 ▸ h3⟩,fun ⟨a,h1,h2⟩ => ⟨_,⟨a,h1,rfl⟩,h2⟩⟩
def dAndX (A:DG) (i:Nat):DG:=fun δ Q => A δ fun d δ1 => ∃ c b,d = .bl c ∧ δ1.vs[i]? = some (.val (.bl b)) ∧ Q (.bl (c && b)) δ1
theorem d_andX {X:Cx} {a b:Expr} {i:Nat} {pos:Pos} {Ga:DG} (ha:DE X a Ga) (hb:PE X b (tVar i)):DE X (.BoolOp .And [a,b] pos) (dAndX Ga i):=pe_of (pe_and ha (pe_one hb)) fun σ H Q ⟨en,F,R,W,δ,Kt,r0,g0,k⟩ => by
 refine ⟨en,F,R,W,δ,_,r0,g0,?_⟩
 rintro d δ1 F1 R1 W1 H1 x ⟨c,b,rfl,hb,kc⟩ s1 u1 r1 x1
 cases x1
 refine ⟨c,rfl,?_⟩
 obtain ⟨v,e1,e2⟩:=r1.sl i _ hb
 cases c with
 | true => exact ⟨v,e1,k _ _ _ _ _ _ _ kc s1 u1 r1 e2⟩
 | false => exact k _ _ _ _ _ _ _ kc s1 u1 r1 (.bl _)
def Step1 {α:Type} (l:List α) (h:α → D) (is:List Nat) (δ:DS) (i:Nat):D → DS → Prop:=fun y δ3 => ((l.take i).map h).length < sizeLine ∧ ((l.take i).map h ++ [y] = (l.take (i + 1)).map h ∧ (⟨wipeD δ3.vs is,δ3.S⟩:DS) = ⟨wipeD δ.vs is,δ.S⟩)
theorem step1 {α:Type} {l:List α} {h:α → D} {is:List Nat} {δ δ3:DS} {i:Nat} {a:α} {y:D} (hi:l[i]? = some a) (hn:l.length ≤ sizeLine) (e:y = h a) (hv:wipeD δ3.vs is = wipeD δ.vs is) (hS:δ3.S = δ.S):Step1 l h is δ i y δ3:=by
 have il:i < l.length:=(List.getElem?_eq_some_iff.mp hi).1
 refine ⟨by rw [List.length_map,List.length_take]; omega,?_,by rw [hv,hS]⟩
 rw [List.take_succ,hi,List.map_append,e]; rfl
theorem lc_map {α:Type} {is:List Nat} {g:DTg} {T:DB} {Ge:DG} {Q:List D → DS → Prop} {items:List D} {δ:DS} (l:List α) (e h:α → D) (hit:items = l.map e) (hT:T = fun δ Q => Q true δ)
  (hs:∀ (i:Nat) (a:α),l[i]? = some a → g (e a) ⟨wipeD δ.vs is,δ.S⟩ fun δ2 => Ge δ2 (Step1 l h is δ i)) (hd:Q (l.map h) ⟨wipeD δ.vs is,δ.S⟩):LcGo is g T Ge Q items δ:=by
 refine ⟨fun i acc δ' => acc = (l.take i).map h ∧ (⟨wipeD δ'.vs is,δ'.S⟩:DS) = ⟨wipeD δ.vs is,δ.S⟩,⟨by simp,rfl⟩,?_,?_⟩
 ·rintro i d acc δ' hi ⟨rfl,e2⟩
  subst hit
  rw [List.getElem?_map,Option.map_eq_some_iff] at hi
  obtain ⟨a,ha,rfl⟩:=hi
  rw [e2]
  subst hT
  simp only [if_true]
  exact hs i a ha
 ·rintro acc δ' ⟨rfl,e2⟩
  rw [e2,hit,List.length_map,List.take_length]
  exact hd
theorem lc_inv {is:List Nat} {g:DTg} {T:DB} {Ge:DG} {Q:List D → DS → Prop} {items:List D} {δ:DS} (I:Nat → List D → DS → Prop) (hT:T = fun δ Q => Q true δ) (h0:I 0 [] δ)
  (hs:∀ (i:Nat) (d:D) (acc:List D) (δ:DS),items[i]? = some d → acc.length = i → I i acc δ → g d ⟨wipeD δ.vs is,δ.S⟩ fun δ2 => Ge δ2 fun y δ4 => acc.length < sizeLine ∧ (acc ++ [y]).length = i + 1 ∧ I (i + 1) (acc ++ [y]) δ4)
  (hd:∀ acc δ,acc.length = items.length → I items.length acc δ → Q acc ⟨wipeD δ.vs is,δ.S⟩):LcGo is g T Ge Q items δ:=by
 subst hT
 refine ⟨fun i acc δ => acc.length = i ∧ I i acc δ,⟨rfl,h0⟩,fun i d acc δ hi ⟨h1,h2⟩ => ?_,fun acc δ ⟨h1,h2⟩ => hd acc δ h1 h2⟩
 simp only [if_true]
 exact hs i d acc δ hi h1 h2
theorem for_inv {g:DTg} {B:DSt} {DD:DEnds} {items:List D} {δ:DS} (I:Nat → DS → Prop) (h0:I 0 δ) (hs:∀ (i:Nat) (d:D) (δ:DS),items[i]? = some d → I i δ → g d δ fun δ2 => B { DD with nx:=I (i + 1),ct:=I (i + 1),bk:=DD.nx } δ2) (hd:∀ δ,I items.length δ → DD.nx δ):ForGo g B DD items δ:=⟨I,h0,hs,hd⟩
theorem tyO_b {S:Sto} {C:Addr} {d:D} {s:String} (h:tyD d = some s):tyO S C d = some (.type s):=by unfold tyO; rw [h]
theorem tyO_o {S:Sto} {C:Addr} {d:D} (h:tyD d = none) {fs:List (Str × D)} (h2:objFs S C d = some fs):tyO S C d = some (.ref C):=by unfold tyO; rw [h,h2]; rfl
theorem tyD_non:tyD .non = some "NoneType" := rfl
theorem tyD_bl (b:Bool):tyD (.bl b) = some "bool" := rfl
theorem tyD_int (b:Int):tyD (.int b) = some "int" := rfl
theorem tyD_str (b:Str):tyD (.str b) = some "str" := rfl
theorem tyD_tup (b:List D):tyD (.tup b) = some "tuple" := rfl
theorem tyD_lst (b:List D):tyD (.lst b) = some "list" := rfl
theorem tyO_non (S:Sto) (C:Addr):tyO S C .non = some (.type "NoneType"):=rfl
theorem tyO_bl (S:Sto) (C:Addr) (b:Bool):tyO S C (.bl b) = some (.type "bool"):=rfl
theorem tyO_int (S:Sto) (C:Addr) (b:Int):tyO S C (.int b) = some (.type "int"):=rfl
theorem tyO_str (S:Sto) (C:Addr) (b:Str):tyO S C (.str b) = some (.type "str"):=rfl
theorem tyO_tup (S:Sto) (C:Addr) (b:List D):tyO S C (.tup b) = some (.type "tuple"):=rfl
theorem tyO_lst (S:Sto) (C:Addr) (b:List D):tyO S C (.lst b) = some (.type "list"):=rfl
theorem s_nevers {X:Cx} {sts:List Stmt}:DSts X sts dNever:=pss_of pss_never fun D σ H ⟨en,F,R,W,δ,DD,r0,g0,_⟩ => g0
section
variable {Q:D → Prop} {C:Int → Int → Prop} {f:Int → Int → D} {neg:Bool → Bool} {i j:Int} {x y:Str} {a b:Bool} {ds:List D}
theorem e_gI:gI C f (.int i) (.int j) Q = (C i j ∧ Q (f i j)):=rfl
theorem e_gI0:gI0 f (.int i) (.int j) Q = Q (f i j):=rfl
theorem e_gEqI:gEq neg (.int i) (.int j) Q = Q (.bl (neg (decide (i = j)))):=rfl
theorem e_gEqS:gEq neg (.str x) (.str y) Q = Q (.bl (neg (decide (x = y)))):=rfl
theorem e_gEqB:gEq neg (.bl a) (.bl b) Q = Q (.bl (neg (decide (a = b)))):=rfl
theorem e_gEqN:gEq neg .non .non Q = Q (.bl (neg true)):=rfl
theorem e_gEqSN:gEq neg (.str x) .non Q = Q (.bl (neg false)):=rfl
theorem e_gEqIN:gEq neg (.int i) .non Q = Q (.bl (neg false)):=rfl
theorem e_gIsN {d:D}:gIsN neg d .non Q = Q (.bl (neg (isN d))):=rfl
theorem e_isNn:isN .non = true:=rfl
theorem e_isNs:isN (.str x) = false:=rfl
theorem e_isNi:isN (.int i) = false:=rfl
theorem e_isNb:isN (.bl a) = false:=rfl
theorem e_isNt:isN (.tup ds) = false:=rfl
theorem e_isNl:isN (.lst ds) = false:=rfl
theorem e_isNo {C:Addr} {fs:List (Str × D)}:isN (.obj C fs) = false:=rfl
theorem e_isNr {i:Nat}:isN (.ref i) = false:=rfl
theorem e_gCat:gCat (.str x) (.str y) Q = (x.length + y.length ≤ sizeLine ∧ Q (.str (x ++ y))):=rfl
theorem e_gIxL:gIx (.lst ds) (.int i) Q = ∃ d,atI ds i = some d ∧ Q d:=rfl
theorem e_gIxK:gIx (.kls ds) (.int i) Q = ∃ d,atI ds i = some d ∧ Q d:=rfl
theorem e_gIxT:gIx (.tup ds) (.int i) Q = ∃ d,atI ds i = some d ∧ Q d:=rfl
theorem e_gIxS:gIxS (.str x) (.int i) Q = (x.length ≤ sizeLine ∧ ∃ c,atI x.cps.toList i = some c ∧ Q (.str ⟨#[c]⟩)):=rfl
theorem e_gIntI:gInt (.int i) Q = Q (.int i):=rfl
theorem e_gIntB:gInt (.bl a) Q = Q (.int (if a then 1 else 0)):=rfl
theorem e_gAbs:gAbs (.int i) Q = Q (.int (if i < 0 then -i else i)):=rfl
theorem e_gStrI:gStrI (.int i) Q = (i.natAbs.log2 < 1920 ∧ Q (.str (toString i))):=rfl
theorem e_gStrS:gStrS (.str x) Q = Q (.str x):=rfl
theorem e_gLenS:gLenS (.str x) Q = (x.length ≤ sizeLine ∧ Q (.int x.length)):=rfl
theorem e_gTupT:gTupT (.tup ds) Q = Q (.tup ds):=rfl
theorem e_gNeg:gNeg (.int i) Q = Q (.int (-i)):=rfl
theorem e_gMulS:gMulS (.str x) (.int i) Q = (MulOk x i ∧ Q (.str (Txt.mul x i))):=rfl
theorem e_gInS:gInS (.str x) (.str y) Q = Q (.bl (!(Builtin.Str.occurrences y x 0 y.length 1).isEmpty)):=rfl
theorem e_seqL:seqD (.lst ds) = some ds:=rfl
theorem e_seqK:seqD (.kls ds) = some ds:=rfl
theorem e_seqT:seqD (.tup ds) = some ds:=rfl
theorem e_lstL:lstD (.lst ds) = some ds:=rfl
theorem e_lstK:lstD (.kls ds) = some ds:=rfl
theorem e_keyI:keyD (.int i) = some (.inl i):=rfl
theorem e_keyS:keyD (.str x) = some (.inr x):=rfl
theorem e_fN:flat1 .non = some .non:=rfl
theorem e_fS:flat1 (.str x) = some (.str x):=rfl
theorem e_fI:flat1 (.int i) = some (.int i):=rfl
theorem e_fB:flat1 (.bl a) = some (.bl a):=rfl
end
def dPutO (i:Nat) (Gb Gv:DG):DSt:=fun DD δ => Gv δ fun d δ1 => isOwn δ1.vs[i]? ∧ Gb δ1 fun y δ2 => ∃ ds,δ2.vs[i]? = some (.own ds) ∧ ∃ j,y = .int j ∧ ∃ n,ixN ds.length j = some n ∧ DD.nx ⟨δ2.vs.set i (.own (ds.set n d)),δ2.S⟩
def spLaw (K:PySem.W.Frag):Sp:=fun vs H Q _ => ∃ (a:Addr) (ns:List Int),vs = [.ref a] ∧ SqL K H a (ns.map V.int) ∧ ns.length ≤ 63 ∧ ∀ H',Q (.bl true) H'
def phLaw:Ph:=fun args S Kt => ∃ ns:List Int,args = [.val (.kls (ns.map D.int))] ∧ ns.length ≤ 63 ∧ ∀ S',Kt (.bl true) S'
theorem repInts {K:PySem.W.Frag} {F:Hp} {R:List Addr}:∀ ns:List Int,RepAll K F R (ns.map V.int) (ns.map D.int)
 | [] => .nil
 | n :: ns => .cons (.int n) (repInts ns)
theorem law_cal {P:Program} {w:World} {K:PySem.W.Frag} {mg:Str → Option Value} {base:Heap} {k:Nat} {x:Str} (c:G1.Cal P w K mg base k x (spD K phLaw)):G1.Cal P w K mg base k x (spLaw K):=by
 obtain ⟨f,fd,ps,F,m,kp,b⟩:=c.ex
 refine ⟨f,fd,ps,F.imp ?_,m,kp,b⟩
 rintro vs H Q E ⟨a,ns,rfl,ha,hn,q⟩
 refine ⟨fun b => if b = a then H a else none,[],fun _ => none,fun _ => none,[.val (.kls (ns.map D.int))],fun d _ => d = .bl true,?_,⟨ns,rfl,hn,fun _ => rfl⟩,?_⟩
 ·have fa:(fun b => if b = a then H a else none:Hp) a = H a:=if_pos rfl
  refine ⟨fun _ _ e => e,fun _ _ e => e,fun _ _ e _ => e,fun _ e => e,fun b o e => ?_,fun _ _ _ => rfl,fun b o e => .inl ⟨o,e⟩,fun _ _ e => (by cases e),fun _ _ e => (by cases e),fun i s e => ?_,rfl,fun _ e => (by cases e),fun _ e => (by cases e)⟩
  ·have e':(if b = a then H a else none) = some o:=e
   by_cases z:b = a
   ·subst z; rwa [if_pos rfl] at e'
   ·rw [if_neg z] at e'; cases e'
  ·match i,e with
   | 0,e =>
    obtain rfl:Sl.val (.kls (ns.map D.int)) = s:=by simpa using e
    exact ⟨_,rfl,.kls (sqL_kept (H:=H) (fun o z => fa.trans z) ha) (repInts ns)⟩
   | i + 1,e => simp at e
 ·rintro d S' F' R' W' H' v rfl _ _ _ rv
  cases rv
  exact q H'
theorem cut_of {T U:DSt} {DD:DEnds} {δ:DS} (Mid:DS → Prop) (h1:T { DD with nx:=Mid } δ) (h2:∀ δ',Mid δ' → U DD δ'):dCut T U DD δ:=⟨Mid,h1,h2⟩
theorem while_of {A:DB} {B:DSt} {DD:DEnds} {δ:DS} (Wm:Nat → DS → Prop) (m:Nat) (h0:Wm m δ) (h:∀ m δ,Wm m δ → A δ fun b δ1 => if b = true then ∃ N:DS → Prop,(∀ δ',N δ' → ∃ m',m' < m ∧ Wm m' δ') ∧ B { DD with nx:=N,ct:=N,bk:=DD.nx } δ1 else DD.nx δ1):dWhile A B DD δ:=⟨Wm,⟨m,h0⟩,h⟩
end
section
section
variable {X:Cx} {e a b c o tg:Expr} {es:List Expr} {p pos apos tpos:Pos} {G Ga Gb Gc Go:DG} {Gn Gm:DN} {Gr:DAr} {elts:List Expr} {kk:Nat}
def enumS (z:Str):List D:=z.cps.toList.zipIdx.map fun q => .tup [.int (q.2:Nat),.str ⟨#[q.1]⟩]
def dEnumS (G:DG):DIg:=fun δ Q => G δ fun d δ' => ∃ z,d = .str z ∧ Q (enumS z) δ'
def dChain (g g':G2) (Ga Gb Gc:DG):DG:=fun δ Q => Ga δ fun x δ1 => Gb δ1 fun y δ2 => g x y fun z => ∃ k,z = .bl k ∧ if k = true then Gc δ2 fun w δ3 => g' y w fun z' => Q z' δ3 else Q (.bl false) δ2
def gPart:G2
 | .str x,.str y,Q => (y.length == 0) = false ∧ x.length ≤ sizeLine ∧ Q (.tup [.str (Txt.partition x y).1,.str (Txt.partition x y).2.1,.str (Txt.partition x y).2.2])
 | _,_,_ => False
theorem e_gPart {x y:Str} {Q:D → Prop}:gPart (.str x) (.str y) Q = ((y.length == 0) = false ∧ x.length ≤ sizeLine ∧ Q (.tup [.str (Txt.partition x y).1,.str (Txt.partition x y).2.1,.str (Txt.partition x y).2.2])):=rfl
def dPart (Go G:DG):DG:=fun δ Q => Go δ fun x δ1 => (∃ a,x = .str a) ∧ G δ1 fun y δ2 => gPart x y fun z => Q z δ2
def dAugI (i:Nat) (f:Int → Int → Int) (G:DG):DSt:=fun D δ => ∃ x,δ.vs[i]? = some (.val (.int x)) ∧ G δ fun d δ' => ∃ y,d = .int y ∧ i < δ'.vs.length ∧ D.nx ⟨δ'.vs.set i (.val (.int (f x y))),δ'.S⟩
def dAsg2 (G:DG) (g1 g2:DTg):DSt:=fun D δ => G δ fun d δ' => g1 d δ' fun δ2 => g2 d δ2 D.nx
end
section
variable {X:Cx} {e a b c o tg:Expr} {es:List Expr} {p pos apos tpos:Pos} {G Ga Gb Gc Go:DG} {Gr:DAr} {k j:Nat} {C:Addr} {m:Str} {Φ:Ph}
def dCMeth (C:Addr) (Φ:Ph) (Go:DG) (Gr:DAr):DG:=fun δ Q => Go δ fun d δ1 => d = .cls C ∧ Gr δ1 fun as δ2 => ∃ args,lendAll δ2 as = some args ∧ Φ (.val (.cls C) :: args) δ2.S fun d S' => Q d ⟨δ2.vs,S'⟩
end
end
end GD
namespace GS
open PySem PySem.Spec PyProof.Rows L2 GB
end GS
namespace GD
open PySem PySem.Spec PyProof.Rows L2 GB GS
end GD
namespace GD
open PySem PySem.Spec PyProof.Rows L2 GB
section
section
variable {X:Cx} {e a b o:Expr} {es:List Expr} {p pos apos tpos:Pos} {G Ga Gb Go:DG} {Gn:DN} {Gr:DAr} {elts:List Expr} {kk:Nat}
theorem repInts' {K:PySem.W.Frag} {F:Hp} {R:List Addr}:∀ {xs:List V} {ns:List Int},RepAll K F R xs (ns.map D.int) → xs = ns.map V.int
 | _,[],.nil => rfl
 | _,b :: bs,.cons h t => by cases h; rw [repInts' t]; rfl
def dMaxL (Gn:DN):DG:=fun δ Q => Gn δ fun ds δ' => ∃ ns:List Int,ds = ns.map D.int ∧ ns ≠ [] ∧ ∀ m,m ∈ ns → (∀ y ∈ ns,y ≤ m) → Q (.int m) δ'
theorem d_maxL (hc:X.calm = true) (hg:Gl X "max") (hm:X.mg "max" = none) (he:LE X e Gn) (hs:starEach [e] X.env = (false,eval e X.env) :: starEach [] X.env:=by rfl) (hpl:(backTo pos (starEach [] X.env)).any (·.1) = false:=by rfl):DE X (.Call (.Name "max" p) [e] [] pos) (dMaxL Gn) :=
 pe_of (pe_callB (cr_max hc) hg hm (by decide +kernel) (pa_cons he pa_nil hs) (by decide) (by decide) hs hpl) fun σ H Q ⟨en,F,R,W,δ,Kt,r0,g0,k⟩ => by
  refine ⟨en,F,R,W,δ,_,r0,g0,?_⟩
  rintro ds δ1 F1 R1 W1 H1 a xs ⟨ns,rfl,ne,g1⟩ s1 u1 r1 q1 x1
  rw [repInts' x1] at q1
  exact ⟨a,ns,rfl,q1,List.length_pos_iff.mpr ne,fun m h1 h2 => k _ _ _ _ _ _ _ (g1 m h1 h2) s1 u1 r1 (.int _)⟩
end
end
section
section
variable {X:Cx} {e a b o:Expr} {es:List Expr} {p pos apos tpos:Pos} {G Ga Gb Go:DG} {Gn:DN} {Gr:DAr} {elts:List Expr} {kk:Nat}
def dInK (neg:Bool) (Ga Gb:DG):DG:=fun δ Q => Ga δ fun k δ1 => Gb δ1 fun o δ2 => ∃ kvs key,dctOf δ2.S o = some kvs ∧ keyD k = some key ∧ Q (.bl (if neg then !(valD kvs key).isSome else (valD kvs key).isSome)) δ2
end
end
section
mutual
def pyD:D → Option PyData
 | .non => some .none
 | .bl b => some (.bool b)
 | .int i => some (.int i)
 | .str s => some (.str s)
 | .lst ds => (pyDs ds).map .list
 | .kls ds => (pyDs ds).map .list
 | .tup ds => (pyDs ds).map .tuple
 | _ => none
def pyDs:List D → Option (List PyData)
 | [] => some []
 | d :: r => match pyD d,pyDs r with
  | some a,some b => some (a :: b)
  | _,_ => none
end
theorem Rep.dp {K:PySem.W.Frag} {F H:Hp} {R:List Addr} (s:Same F H) {v:V} {d:D} (h:Rep K F R v d):∀ p,pyD d = some p → Dp K H v p :=
 Rep.rec (motive_1:=fun v d _ => ∀ p,pyD d = some p → Dp K H v p) (motive_2:=fun vs ds _ => ∀ ps,pyDs ds = some ps → DpAll K H vs ps) (motive_3:=fun _ _ _ => True) (motive_4:=fun _ _ _ => True)
  (fun p e => by simp only [pyD,Option.some.injEq] at e; subst e; exact .non)
  (fun b p e => by simp only [pyD,Option.some.injEq] at e; subst e; exact .bl b)
  (fun i p e => by simp only [pyD,Option.some.injEq] at e; subst e; exact .int i)
  (fun x p e => by simp only [pyD,Option.some.injEq] at e; subst e; exact .str x)
  (fun _ p e => by simp [pyD] at e) (fun _ p e => by simp [pyD] at e)
  (fun h _ ih p e => by
   simp only [pyD,Option.map_eq_some_iff] at e
   obtain ⟨ps,e1,rfl⟩:=e
   exact .tup (same_t s h) (ih ps e1))
  (fun h _ ih p e => by
   simp only [pyD,Option.map_eq_some_iff] at e
   obtain ⟨ps,e1,rfl⟩:=e
   exact .lst (SqL.of (s _ _ h)) (ih ps e1))
  (fun h _ ih p e => by
   simp only [pyD,Option.map_eq_some_iff] at e
   obtain ⟨ps,e1,rfl⟩:=e
   exact .lst (same_l s h) (ih ps e1))
  (fun _ _ _ p e => by simp [pyD] at e) (fun _ _ _ p e => by simp [pyD] at e) (fun _ p e => by simp [pyD] at e)
  (fun ps e => by simp only [pyDs,Option.some.injEq] at e; subst e; exact .nil)
  (fun {v d xs ds} _ _ i j ps e => by
   simp only [pyDs] at e
   cases q1:pyD d with
   | none => rw [q1] at e; cases e
   | some a =>
    cases q2:pyDs ds with
    | none => rw [q1,q2] at e; cases e
    | some b =>
     rw [q1,q2] at e
     obtain rfl:=Option.some.inj e
     exact .cons (i a q1) (j b q2))
  trivial (fun _ _ _ _ => trivial) trivial (fun _ _ _ _ => trivial) h
theorem pyDs_map {α:Type} {f:α → D} {g:α → PyData} (h:∀ a,pyD (f a) = some (g a)):∀ l:List α,pyDs (l.map f) = some (l.map g)
 | [] => by simp [pyDs]
 | a :: r => by simp [pyDs,h a,pyDs_map h r]
end
end GD
namespace GG
open PySem
open Sem (wp)
section
def hid:GenState → GenState
 | .suspended _ l c p fs cl => .suspended (fun _ => .unsupported "hidden") l c p fs cl
 | y => y
theorem hid_seen (y:GenState):(hid y).seen = y.seen:=by cases y <;> rfl
theorem hid_bare (y:GenState):(hid y).bare = y.bare:=by cases y <;> rfl
def isFresh:GenState → Bool
 | .fresh _ => true
 | _ => false
structure Sim (G:Nat → Option GenState) (x s:Shared):Prop where
 heap:s.heap = x.heap
 drawn:s.drawn = x.drawn
 toks:s.toks = x.toks
 os:s.os = x.os
 size:s.gens.size = x.gens.size
 held:∀ j y,G j = some y → isFresh y = false ∧ x.gens[j]? = some y ∧ s.gens[j]? = some (hid y)
 rest:∀ j,G j = none → s.gens[j]? = x.gens[j]?
 fine:∀ j,G j = none → ∀ k l c p fs cl,x.gens[j]? = some (.suspended k l c p fs cl) → splitAtGen fs = none
def EFine:End → Prop
 | .susp _ _ _ _ _ _ fs => splitAtGen fs = none
 | .ret _ => True
theorem no_unsup {M:Model} {Γ:Ctx} {p:Pos} {t:Sem Fin} {fs:List Frame} {s s':Shared} {e:End} (h:Runs M Γ p t fs s e s'):∀ w,t ≠ .unsupported w:=by
 induction h with
 | segRet a b iha ihb => exact iha
 | segGen a b iha ihb => exact iha
 | segSuspOut a b ihb => exact ihb
 | segSuspGen a b c d ihb ihd => exact ihb
 | _ => intro w z; cases z
section
variable {G:Nat → Option GenState} {x s:Shared}
theorem Sim.heap' (h:Sim G x s) {hp:Heap}:Sim G { x with heap:=hp } { s with heap:=hp }:=⟨rfl,h.drawn,h.toks,h.os,h.size,h.held,h.rest,h.fine⟩
theorem Sim.drawn' (h:Sim G x s) {d:Drawn}:Sim G { x with drawn:=d } { s with drawn:=d }:=⟨h.heap,rfl,h.toks,h.os,h.size,h.held,h.rest,h.fine⟩
theorem Sim.toks' (h:Sim G x s) {n:Nat}:Sim G { x with toks:=n } { s with toks:=n }:=⟨h.heap,h.drawn,rfl,h.os,h.size,h.held,h.rest,h.fine⟩
theorem Sim.os' (h:Sim G x s) {o:OsState}:Sim G { x with os:=o } { s with os:=o }:=⟨h.heap,h.drawn,h.toks,rfl,h.size,h.held,h.rest,h.fine⟩
theorem push_at {a:Array GenState} {y:GenState} (j:Nat):(a.push y)[j]? = if j = a.size then some y else a[j]? := Array.getElem?_push
theorem Sim.push (h:Sim G x s) {c:Code}:Sim G { x with gens:=x.gens.push (.fresh c) } { s with gens:=s.gens.push (.fresh c) }:=by
 refine ⟨h.heap,h.drawn,h.toks,h.os,by simp [h.size],fun j y e => ?_,fun j e => ?_,fun j e k l c' p fs cl z => ?_⟩
 ·obtain ⟨a,b,c'⟩:=h.held j y e
  have lt:=(Array.getElem?_eq_some_iff.mp b).1
  refine ⟨a,?_,?_⟩
  ·show (x.gens.push _)[j]? = _
   rw [push_at,if_neg (Nat.ne_of_lt lt)]; exact b
  ·show (s.gens.push _)[j]? = _
   rw [push_at,if_neg (by rw [h.size]; exact Nat.ne_of_lt lt)]; exact c'
 ·show (s.gens.push _)[j]? = (x.gens.push _)[j]?
  rw [push_at,push_at,h.size,h.rest j e]
 ·have z':(x.gens.push _)[j]? = _:=z
  rw [push_at] at z'
  split at z'
  ·cases z'
  ·exact h.fine j e k l c' p fs cl z'
theorem set_at {a:Array GenState} {g:Nat} {y:GenState} (j:Nat):(a.setIfInBounds g y)[j]? = if g = j then (if j < a.size then some y else none) else a[j]? := by
 rw [Array.getElem?_setIfInBounds]
 by_cases e:g = j
 ·subst e; simp
 ·simp [e]
theorem Sim.set (h:Sim G x s) {g:Nat} {y:GenState} (hg:G g = none) (hf:∀ k l c p fs cl,y = .suspended k l c p fs cl → splitAtGen fs = none):Sim G (x.setGen g y) (s.setGen g y):=by
 refine ⟨h.heap,h.drawn,h.toks,h.os,by simp [Shared.setGen,h.size],fun j z e => ?_,fun j e => ?_,fun j e k l c' p fs cl z => ?_⟩
 ·obtain ⟨a,b,c'⟩:=h.held j z e
  have ne:g ≠ j:=fun q => by subst q; rw [hg] at e; cases e
  refine ⟨a,?_,?_⟩
  ·show (x.gens.setIfInBounds g y)[j]? = _
   rw [set_at,if_neg ne]; exact b
  ·show (s.gens.setIfInBounds g y)[j]? = _
   rw [set_at,if_neg ne]; exact c'
 ·show (s.gens.setIfInBounds g y)[j]? = (x.gens.setIfInBounds g y)[j]?
  rw [set_at,set_at,h.size,h.rest j e]
 ·have z':(x.gens.setIfInBounds g y)[j]? = _:=z
  rw [set_at] at z'
  split at z'
  ·split at z'
   ·exact hf k l c' p fs cl (Option.some.inj z')
   ·cases z'
  ·exact h.fine j e k l c' p fs cl z'
theorem Sim.at (h:Sim G x s) {j:Nat} {y:GenState} (e:s.gens[j]? = some y):(∃ z,G j = some z ∧ x.gens[j]? = some z ∧ y = hid z ∧ isFresh z = false) ∨ (G j = none ∧ x.gens[j]? = some y):=by
 cases q:G j with
 | none => exact .inr ⟨rfl,by rw [← h.rest j q]; exact e⟩
 | some z =>
  obtain ⟨a,b,c⟩:=h.held j z q
  rw [e] at c
  exact .inl ⟨z,rfl,b,Option.some.inj c,a⟩
end
theorem split_app {a b:List Frame} (ha:splitAtGen a = none) (hb:splitAtGen b = none):splitAtGen (a ++ b) = none:=by
 induction a with
 | nil => exact hb
 | cons f r ih =>
  cases f with
  | gen g k l c p => simp [splitAtGen] at ha
  | ret k h g l c p kp =>
   have h1:splitAtGen r = none:=by
    cases q:splitAtGen r with
    | none => rfl
    | some z => simp [splitAtGen,q] at ha
   show splitAtGen (_ :: (r ++ b)) = none
   simp [splitAtGen,ih h1]
end
section
theorem split_ret {k h g l c p kp} {fs:List Frame} (h0:splitAtGen (Frame.ret k h g l c p kp :: fs) = none):splitAtGen fs = none:=by
 cases q:splitAtGen fs with
 | none => rfl
 | some z => simp [splitAtGen,q] at h0
theorem efine_gs {e:End} (h:EFine e):∀ k l c p fs cl,e.genState = .suspended k l c p fs cl → splitAtGen fs = none:=by
 intro k l c p fs cl z
 cases e with
 | ret r => cases z
 | susp v g l0 k0 c0 p0 fs0 =>
  have z':GenState.suspended k0 l0 c0 p0 fs0 (g || fs0.any Frame.guarded) = .suspended k l c p fs cl:=z
  cases z'
  exact h
theorem sim_runs {M:Model} {Γ:Ctx} {p:Pos} {t:Sem Fin} {fs:List Frame} {s s':Shared} {e:End} (h:Runs M Γ p t fs s e s') :
  splitAtGen fs = none → ∀ {G:Nat → Option GenState} {x:Shared},Sim G x s → EFine e ∧ ∃ x',Runs M Γ p t fs x e x' ∧ Sim G x' s':=by
 induction h with
 | done => exact fun _ _ x hS => ⟨trivial,x,.done,hS⟩
 | raise => exact fun _ _ x hS => ⟨trivial,x,.raise,hS⟩
 | again hq _ ih => exact fun hf G x hS => let ⟨a,x',r,S⟩:=ih hf hS; ⟨a,x',.again hq r,S⟩
 | rule _ ih => exact fun hf G x hS => let ⟨a,x',r,S⟩:=ih hf hS; ⟨a,x',.rule r,S⟩
 | «at» _ ih => exact fun hf G x hS => let ⟨a,x',r,S⟩:=ih hf hS; ⟨a,x',.at r,S⟩
 | load ho _ ih => exact fun hf G x hS => let ⟨a,x',r,S⟩:=ih hf hS; ⟨a,x',.load (by rw [← hS.heap]; exact ho) r,S⟩
 | update ha _ ih => exact fun hf G x hS => let ⟨a,x',r,S⟩:=ih hf (hS.heap' (hp:=_)); ⟨a,x',.update (by rw [← hS.heap]; exact ha) (by rw [← hS.heap]; exact r),S⟩
 | loadIfAlive _ ih => exact fun hf G x hS => let ⟨a,x',r,S⟩:=ih hf hS; ⟨a,x',.loadIfAlive (by rw [← hS.heap]; exact r),S⟩
 | point _ ih => exact fun hf G x hS => let ⟨a,x',r,S⟩:=ih hf hS; ⟨a,x',.point r,S⟩
 | alloc _ ih => exact fun hf G x hS => let ⟨a,x',r,S⟩:=ih hf (hS.heap' (hp:=_)); ⟨a,x',.alloc (by rw [← hS.heap]; exact r),S⟩
 | fresh _ ih => exact fun hf G x hS => let ⟨a,x',r,S⟩:=ih hf (hS.toks' (n:=_)); ⟨a,x',.fresh (by rw [← hS.toks]; exact r),S⟩
 | ask _ ih => exact fun hf G x hS => let ⟨a,x',r,S⟩:=ih hf hS; ⟨a,x',.ask r,S⟩
 | choose hn _ ih => exact fun hf G x hS => let ⟨a,x',r,S⟩:=ih hf (hS.drawn' (d:=_)); ⟨a,x',.choose hn (by rw [← hS.drawn]; exact r),S⟩
 | os _ ih => exact fun hf G x hS => let ⟨a,x',r,S⟩:=ih hf (hS.os' (o:=_)); ⟨a,x',.os (by rw [← hS.os]; exact r),S⟩
 | handled _ ih => exact fun hf G x hS => let ⟨a,x',r,S⟩:=ih hf hS; ⟨a,x',.handled r,S⟩
 | genState hg _ ih =>
  intro hf G x hS
  obtain ⟨a,x',r,S⟩:=ih hf hS
  rcases hS.at hg with ⟨z,h1,h2,h3,h4⟩ | ⟨h1,h2⟩
  ·exact ⟨a,x',.genState h2 (by rw [← hid_seen z,← h3]; exact r),S⟩
  ·exact ⟨a,x',.genState h2 r,S⟩
 | stack _ ih => exact fun hf G x hS => let ⟨a,x',r,S⟩:=ih hf hS; ⟨a,x',.stack r,S⟩
 | thread _ ih => exact fun hf G x hS => let ⟨a,x',r,S⟩:=ih hf hS; ⟨a,x',.thread r,S⟩
 | newGen _ ih => exact fun hf G x hS => let ⟨a,x',r,S⟩:=ih hf hS.push; ⟨a,x',.newGen (by rw [← hS.size]; exact r),S⟩
 | call _ _ ih1 ih2 =>
  intro hf G x hS
  obtain ⟨_,x1,r1,S1⟩:=ih1 rfl hS
  obtain ⟨a,x',r,S⟩:=ih2 hf S1
  exact ⟨a,x',.call r1 r,S⟩
 | callSusp _ ih =>
  intro hf G x hS
  obtain ⟨a,x',r,S⟩:=ih rfl hS
  exact ⟨split_app a rfl,x',.callSusp r,S⟩
 | yield => exact fun _ _ x hS => ⟨rfl,x,.yield,hS⟩
 | resumeFresh hg _ hq _ ih1 ih2 =>
  intro hf G x hS
  rcases hS.at hg with ⟨z,h1,h2,h3,h4⟩ | ⟨h1,h2⟩
  ·cases z <;> simp [hid] at h3
   simp [isFresh] at h4
  ·obtain ⟨a1,x1,r1,S1⟩:=ih1 rfl (hS.set h1 (y := .running) (fun _ _ _ _ _ _ z => by cases z))
   obtain ⟨a,x',r,S⟩:=ih2 hf (S1.set h1 (efine_gs a1))
   exact ⟨a,x',.resumeFresh h2 r1 hq r,S⟩
 | resumeSuspended hg hr hq _ ih1 ih2 =>
  intro hf G x hS
  rcases hS.at hg with ⟨z,h1,h2,h3,h4⟩ | ⟨h1,h2⟩
  ·cases z with
   | suspended k l c p fs cl =>
    simp only [hid,GenState.suspended.injEq] at h3
    obtain ⟨rfl,_⟩:=h3
    exact absurd rfl (no_unsup hr "hidden")
   | _ => simp [hid] at h3
  ·obtain ⟨a1,x1,r1,S1⟩:=ih1 (hS.fine _ h1 _ _ _ _ _ _ h2) (hS.set h1 (y := .running) (fun _ _ _ _ _ _ z => by cases z))
   obtain ⟨a,x',r,S⟩:=ih2 hf (S1.set h1 (efine_gs a1))
   exact ⟨a,x',.resumeSuspended h2 r1 hq r,S⟩
 | resumeJustStarted hg hv _ ih =>
  intro hf G x hS
  rcases hS.at hg with ⟨z,h1,h2,h3,h4⟩ | ⟨h1,h2⟩
  ·cases z <;> simp [hid] at h3
   simp [isFresh] at h4
  ·obtain ⟨a,x',r,S⟩:=ih hf hS
   exact ⟨a,x',.resumeJustStarted h2 hv r,S⟩
 | resumeThrowFresh hg _ ih =>
  intro hf G x hS
  rcases hS.at hg with ⟨z,h1,h2,h3,h4⟩ | ⟨h1,h2⟩
  ·cases z <;> simp [hid] at h3
   simp [isFresh] at h4
  ·obtain ⟨a,x',r,S⟩:=ih hf (hS.set h1 (y := .finished) (fun _ _ _ _ _ _ z => by cases z))
   exact ⟨a,x',.resumeThrowFresh h2 r,S⟩
 | resumeRunning hg _ ih =>
  intro hf G x hS
  obtain ⟨a,x',r,S⟩:=ih hf hS
  rcases hS.at hg with ⟨z,h1,h2,h3,h4⟩ | ⟨h1,h2⟩
  ·cases z <;> simp [hid] at h3
   exact ⟨a,x',.resumeRunning h2 r,S⟩
  ·exact ⟨a,x',.resumeRunning h2 r,S⟩
 | resumeFinished hg _ ih =>
  intro hf G x hS
  obtain ⟨a,x',r,S⟩:=ih hf hS
  rcases hS.at hg with ⟨z,h1,h2,h3,h4⟩ | ⟨h1,h2⟩
  ·cases z <;> simp [hid] at h3
   exact ⟨a,x',.resumeFinished h2 r,S⟩
  ·exact ⟨a,x',.resumeFinished h2 r,S⟩
 | segRet _ _ ih1 ih2 =>
  intro hf G x hS
  obtain ⟨_,x1,r1,S1⟩:=ih1 rfl hS
  obtain ⟨a,x',r,S⟩:=ih2 (split_ret hf) S1
  exact ⟨a,x',.segRet r1 r,S⟩
 | segGen _ _ _ _ => intro hf; simp [splitAtGen] at hf
 | segSuspOut hsp _ ih =>
  intro hf G x hS
  obtain ⟨a,x',r,S⟩:=ih rfl hS
  exact ⟨split_app a hsp,x',.segSuspOut hsp r,S⟩
 | segSuspGen hsp _ _ _ _ _ => intro hf; rw [hsp] at hf; cases hf
end
section
theorem wakes_sim {M:Model} {Γ:Ctx} {p:Pos} {g:Nat} {r:Resume} {s s' x:Shared} {res:GenResult} {G:Nat → Option GenState} (h:Wakes M Γ p g r s res s') (hS:Sim G x s):∃ x',Wakes M Γ p g r x res x' ∧ Sim G x' s':=by
 unfold Wakes at h
 cases hg:s.gens[g]? with
 | none => rw [hg] at h; exact h.elim
 | some st =>
  rw [hg] at h
  have hat:=hS.at hg
  cases st with
  | fresh c =>
   rcases hat with ⟨z,h1,h2,h3,h4⟩ | ⟨h1,h2⟩
   ·cases z <;> simp [hid] at h3
    simp [isFresh] at h4
   ·unfold Wakes
    rw [h2]
    cases r with
    | send v =>
     cases v with
     | none =>
      obtain ⟨e1,s1,hr,hq,e2,rfl⟩:=h
      obtain ⟨a1,x1,r1,S1⟩:=sim_runs hr rfl (hS.set h1 (y := .running) (fun _ _ _ _ _ _ z => by cases z))
      exact ⟨_,⟨e1,x1,r1,hq,e2,rfl⟩,S1.set h1 (efine_gs a1)⟩
     | _ =>
      obtain ⟨e2,rfl⟩:=h
      exact ⟨x,⟨e2,rfl⟩,hS⟩
    | throw v =>
     obtain ⟨e2,rfl⟩:=h
     exact ⟨_,⟨e2,rfl⟩,hS.set h1 (fun _ _ _ _ _ _ z => by cases z)⟩
  | suspended k0 l0 c0 p0 fs cl =>
   obtain ⟨e1,s1,hr,hq,e2,rfl⟩:=h
   rcases hat with ⟨z,h1,h2,h3,h4⟩ | ⟨h1,h2⟩
   ·cases z with
    | suspended k l c p fs cl =>
     simp only [hid,GenState.suspended.injEq] at h3
     obtain ⟨rfl,_⟩:=h3
     exact absurd rfl (no_unsup hr "hidden")
    | _ => simp [hid] at h3
   ·obtain ⟨a1,x1,r1,S1⟩:=sim_runs hr (hS.fine _ h1 _ _ _ _ _ _ h2) (hS.set h1 (y := .running) (fun _ _ _ _ _ _ z => by cases z))
    refine ⟨x1.setGen g e1.genState,?_,S1.set h1 (efine_gs a1)⟩
    unfold Wakes
    rw [h2]
    exact ⟨e1,x1,r1,hq,e2,rfl⟩
  | running =>
   obtain ⟨e2,rfl⟩:=h
   refine ⟨x,?_,hS⟩
   unfold Wakes
   rcases hat with ⟨z,h1,h2,h3,h4⟩ | ⟨h1,h2⟩
   ·cases z <;> simp [hid] at h3
    rw [h2]; exact ⟨e2,rfl⟩
   ·rw [h2]; exact ⟨e2,rfl⟩
  | finished =>
   obtain ⟨e2,rfl⟩:=h
   refine ⟨x,?_,hS⟩
   unfold Wakes
   rcases hat with ⟨z,h1,h2,h3,h4⟩ | ⟨h1,h2⟩
   ·cases z <;> simp [hid] at h3
    rw [h2]; exact ⟨e2,rfl⟩
   ·rw [h2]; exact ⟨e2,rfl⟩
theorem wp_sim {α:Type} (M:Model) (Γ:Ctx) (G:Nat → Option GenState) (t:Sem α):∀ (Q:α → Pos → Shared → Prop) (E:Value → Pos → Shared → Prop) (p:Pos) (s x:Shared),Sim G x s → wp M Γ t Q E p s →
  wp M Γ t (fun a p' x' => ∃ s',Sim G x' s' ∧ Q a p' s') (fun e p' x' => ∃ s',Sim G x' s' ∧ E e p' s') p x:=by
 induction t with
 | pure a => intro Q E p s x hS h; exact ⟨s,hS,h⟩
 | raise e => intro Q E p s x hS h; exact ⟨s,hS,h⟩
 | unsupported _ => intro Q E p s x _ h; exact h
 | finish _ => intro Q E p s x _ h; exact h
 | rule _ k ih => intro Q E p s x hS h; exact ih () Q E p s x hS h
 | «at» p' k ih => intro Q E p s x hS h; exact ih () Q E p' s x hS h
 | load a _ k ih => intro Q E p s x hS h; obtain ⟨o,ho,h⟩:=h; exact ⟨o,by rw [← hS.heap]; exact ho,ih o Q E p s x hS h⟩
 | update a _ f k ih =>
  intro Q E p s x hS h
  refine ⟨by rw [← hS.heap]; exact h.1,?_⟩
  have r:=ih () Q E p _ _ (hS.heap' (hp:=s.heap.update a f)) h.2
  rw [hS.heap] at r; exact r
 | loadIfAlive a k ih =>
  intro Q E p s x hS h
  have r:=ih (s.heap.get? a) Q E p s x hS h
  rw [hS.heap] at r; exact r
 | point _ k ih => intro Q E p s x hS h; exact ih () Q E p s x hS h
 | register _ _ => intro Q E p s x _ h; exact h
 | alloc o k ih =>
  intro Q E p s x hS h
  have r:=ih s.heap.objs.size Q E p _ _ (hS.heap' (hp:=s.heap.push o)) h
  rw [hS.heap] at r; exact r
 | fresh k ih =>
  intro Q E p s x hS h
  have r:=ih s.toks Q E p _ _ (hS.toks' (n:=s.toks + 1)) h
  rw [hS.toks] at r; exact r
 | ask k ih => intro Q E p s x hS h; exact ih _ Q E p s x hS h
 | choose src m k ih =>
  intro Q E p s x hS h
  refine ⟨h.1,?_⟩
  have r:=ih _ Q E p _ _ (hS.drawn' (d:=s.drawn.bump src)) h.2
  rw [hS.drawn] at r; exact r
 | os q _ k ih =>
  intro Q E p s x hS h
  have r:=ih _ Q E p _ _ (hS.os' (o:=(Os.step s.os q).1)) h
  rw [hS.os] at r; exact r
 | call c hd _ _ k ih =>
  intro Q E p s x hS h
  obtain ⟨r,s',hr,h⟩:=h
  obtain ⟨_,x',r',S'⟩:=sim_runs (show Runs M _ _ _ [] s (.ret r) s' from hr) rfl hS
  exact ⟨r,x',r',ih r Q E p s' x' S' h⟩
 | handled own k ih => intro Q E p s x hS h; exact ih _ Q E p s x hS h
 | genState g k ih =>
  intro Q E p s x hS h
  obtain ⟨st,hs,h⟩:=h
  rcases hS.at hs with ⟨z,h1,h2,h3,h4⟩ | ⟨h1,h2⟩
  ·refine ⟨z,h2,?_⟩
   have r:=ih _ Q E p s x hS h
   rw [h3,hid_seen] at r; exact r
  ·exact ⟨st,h2,ih _ Q E p s x hS h⟩
 | newGen c k ih =>
  intro Q E p s x hS h
  have r:=ih _ Q E p _ _ hS.push h
  rw [hS.size] at r; exact r
 | resume g r _ k ih =>
  intro Q E p s x hS h
  obtain ⟨res,s',hw,h⟩:=h
  obtain ⟨x',hw',S'⟩:=wakes_sim hw hS
  exact ⟨res,x',hw',ih res Q E p s' x' S' h⟩
 | yield _ _ _ _ => intro Q E p s x _ h; exact h
 | stack k ih => intro Q E p s x hS h; exact ih _ Q E p s x hS h
 | fork _ _ => intro Q E p s x _ h; exact h
 | thread k ih => intro Q E p s x hS h; exact ih _ Q E p s x hS h
 | await _ _ _ _ _ => intro Q E p s x _ h; exact h
def held (x:Shared):Nat → Option GenState:=fun j => match x.gens[j]? with
 | some y => if isFresh y then none else some y
 | none => none
def hidS (x:Shared):Shared:={ x with gens:=x.gens.map hid }
theorem sim_hid (x:Shared):Sim (held x) x (hidS x):=by
 refine ⟨rfl,rfl,rfl,rfl,by simp [hidS],fun j y e => ?_,fun j e => ?_,fun j e k l c p fs cl z => ?_⟩
 ·simp only [held] at e
  cases q:x.gens[j]? with
  | none => rw [q] at e; cases e
  | some u =>
   rw [q] at e
   cases hf:isFresh u with
   | true => simp [hf] at e
   | false =>
    simp [hf] at e
    subst e
    exact ⟨hf,rfl,by show (x.gens.map hid)[j]? = _; rw [Array.getElem?_map,q]; rfl⟩
 ·simp only [held] at e
  show (x.gens.map hid)[j]? = _
  rw [Array.getElem?_map]
  cases q:x.gens[j]? with
  | none => rfl
  | some u =>
   rw [q] at e
   cases u with
   | fresh c => rfl
   | _ => simp [isFresh] at e
 ·simp only [held] at e
  rw [z] at e
  simp [isFresh] at e
def KeptG (G G':Array GenState):Prop:=∀ (j:Nat) (y:GenState),G[j]? = some y → isFresh y = false → G'[j]? = some y
theorem KeptG.trans {G G1 G2:Array GenState} (a:KeptG G G1) (b:KeptG G1 G2):KeptG G G2:=fun j y e f => b j y (a j y e f) f
theorem held_at {x:Shared} {j:Nat} {y:GenState} (e:x.gens[j]? = some y) (hf:isFresh y = false):held x j = some y:=by simp [held,e,hf]
structure SameButGens (s x:Shared):Prop where
 heap:s.heap = x.heap
 drawn:s.drawn = x.drawn
 toks:s.toks = x.toks
 os:s.os = x.os
 bare:(∀ y ∈ s.gens,y.bare = true) → ∀ y ∈ x.gens,y.bare = true
theorem Sim.kept {x x' s':Shared} (h:Sim (GG.held x) x' s'):KeptG x.gens x'.gens:=fun j y e f => (h.held j y (held_at e f)).2.1
theorem Sim.but {G:Nat → Option GenState} {x s:Shared} (h:Sim G x s):SameButGens s x:=by
 refine ⟨h.heap,h.drawn,h.toks,h.os,fun b y hy => ?_⟩
 obtain ⟨j,hj,e⟩:=Array.mem_iff_getElem.mp hy
 have e':x.gens[j]? = some y:=by rw [Array.getElem?_eq_getElem hj,e]
 cases q:G j with
 | none => exact b y (Array.mem_of_getElem? ((h.rest j q).trans e'))
 | some z =>
  obtain ⟨_,e1,e2⟩:=h.held j z q
  rw [e'] at e1
  obtain rfl:=Option.some.inj e1
  rw [← hid_bare]
  exact b _ (Array.mem_of_getElem? e2)
theorem wpAny_held {α:Type} {M:Model} {A:Around} {t:Sem α} {Q:α → Shared → Prop} {E:Value → Shared → Prop} {x:Shared} (h:wpAny M A t Q E (hidS x)) :
  wpAny M A t (fun a x' => KeptG x.gens x'.gens ∧ ∃ s',SameButGens s' x' ∧ Q a s') (fun e x' => KeptG x.gens x'.gens ∧ ∃ s',SameButGens s' x' ∧ E e s') x:=by
 intro Γ p hΓ
 exact (wpAny_mono (M:=M) (A:=A) (t:=t) (s:=x) (Q:=fun a x' => ∃ s',Sim (held x) x' s' ∧ Q a s') (E:=fun e x' => ∃ s',Sim (held x) x' s' ∧ E e s')
  (fun Γ p hΓ => wp_sim M Γ (held x) t _ _ p _ x (sim_hid x) (h Γ p hΓ)) (fun a x' ⟨s',S,q⟩ => ⟨S.kept,s',S.but,q⟩) fun e x' ⟨s',S,q⟩ => ⟨S.kept,s',S.but,q⟩) Γ p hΓ
end
end GG
namespace GG
open PySem PySem.Spec PyProof.Rows L2
section
def cutH (lo:Nat) (h:Heap):Heap:={ h with objs:=h.objs.extract 0 lo }
theorem cut_lt {lo b:Nat} {h:Heap} (hb:b < lo):(cutH lo h).get? b = h.get? b:=by
 have e:(h.objs.extract 0 lo)[b]? = h.objs[b]? := by
  rw [Array.getElem?_extract]
  by_cases q:b < h.objs.size
  ·rw [if_pos (by omega)]; simp
  ·rw [if_neg (by omega)]; simp; omega
 unfold Heap.get? cutH
 simp only [e]
theorem cut_ge {lo b:Nat} {h:Heap} {o:Obj} (e:(cutH lo h).get? b = some o):b < lo:=by
 have:=Heap.lt_size e
 have z:(cutH lo h).objs.size ≤ lo:=by simp [cutH]; omega
 exact Nat.lt_of_lt_of_le this z
theorem cut_size {lo:Nat} {h:Heap} (hl:lo ≤ h.objs.size):(cutH lo h).objs.size = lo:=by simp [cutH]; omega
theorem cut_at {lo b:Nat} {h:Heap} {o:Obj} (e:(cutH lo h).get? b = some o):b < lo ∧ h.get? b = some o:=by
 have q:=cut_ge e
 exact ⟨q,by rw [← cut_lt q]; exact e⟩
def cutS (lo:Nat) (s:Shared):Shared:={ s with heap:=cutH lo s.heap }
def resH (lo:Nat) (H:Hp):Hp:=fun b => if b < lo then H b else none
theorem res_lt {lo b:Nat} {H:Hp} (h:b < lo):resH lo H b = H b:=if_pos h
theorem res_some {lo b:Nat} {H:Hp} {o:HO} (e:resH lo H b = some o):b < lo ∧ H b = some o:=by
 unfold resH at e
 split at e
 ·exact ⟨by assumption,e⟩
 ·cases e
def core:HO → HO
 | .frz _ u => core u
 | u => u
structure Clo (F:Hp):Prop where
 own:∀ b u C dx fs,F b = some u → core u = .ins C dx fs → F dx = some (.own b)
 nodT:∀ b u kvs,F b = some u → core u ≠ .dT kvs
 clo:∀ d b,F d = some (.own b) → ∃ u,F b = some u
structure Cov (F H:Hp):Prop where
 sub:∀ b u,F b = some u → H b = some u
 fr:Clo F
theorem obj_res {P:Program} {w:World} {F H:Hp} {h:Heap} {a:Addr}:∀ {o:HO},ObjOk P w H h a o → (∀ C dx fs,core o = .ins C dx fs → F dx = some (.own a)) → (∀ kvs,core o ≠ .dT kvs) → ObjOk P w F h a o
 | .lst xs,x,_,_ => x
 | .tup xs,x,_,_ => x
 | .dK kvs,x,_,_ => x
 | .dT kvs,_,_,n => absurd rfl (n kvs)
 | .set S n,x,_,_ => x
 | .ins C dx fs,⟨_,x⟩,i,_ => ⟨i C dx fs rfl,x⟩
 | .own y,x,_,_ => x
 | .xd fs,x,_,_ => x
 | .rng lo hi,x,_,_ => x
 | .frz o u,⟨e,x⟩,i,n => ⟨e,obj_res x i n⟩
 | .tbl ps,x,_,_ => x
 | .met f y,x,_,_ => x
 | .ext φ,x,_,_ => x
theorem Cov.hok {P:Program} {w:World} {F H:Hp} {h:Heap} (c:Cov F H) (ok:HOk P w H h):HOk P w F h:=fun b u e =>
 obj_res (ok b u (c.sub b u e)) (fun C dx fs q => c.fr.own b u C dx fs e q) fun kvs => c.fr.nodT b u kvs e
structure GFr where
 P:Program
 w:World
 K:PySem.W.Frag
 mg:Str → Option Value
 base:Heap
 N:List Str
 qual:Str
 scope:Scope
 f:Addr
 cd:Value
 A:Around
 outer:List Env
 lo:Nat
 Z:List Addr
abbrev GFr.env (g:GFr):Env:=envOfC g.qual g.scope g.lo g.f g.cd
abbrev GFr.X (g:GFr) (s:Shared) (H:Hp):Cx where
 prog:=g.P
 w:=g.w
 K:=g.K
 mg:=g.mg
 base:=g.base
 A:=g.A.deeper g.env
 N:=g.N
 s_0:=cutS g.lo s
 H_0:=resH g.lo H
 env:=g.env
 outer:=g.outer
 stack:=g.env :: g.outer
 ex:=[]
 fn:=fun _ => true
 calm:=true
 pn:=[]
 xe:=fun _ _ => False
structure GFr.Ok (g:GFr):Prop where
 mod:Mod g.K g.mg g.base
 kind:g.scope.kind = .function
 hd:g.A.handled = none
 fr:g.A.frames = some g.outer
 hbl:g.base.objs.size ≤ g.lo
 nocell:g.env.cells = []
 nc:∀ x,g.env.kindOf x ≠ some .cell ∧ g.env.kindOf x ≠ some .free
 fl:∀ b ∈ frs g.outer,b < g.lo
theorem funs_cut {lo:Nat} {h base:Heap}:∀ {l:List Env},(∀ b ∈ frs l,b < lo) → h.FunFrames base l → (cutH lo h).FunFrames base l
 | [],_,_ => trivial
 | env :: rest,hl,⟨hk,⟨L,o,hf,hn,ho,hd⟩,hr⟩ => by
  have hL:L ∈ frs (env :: rest):=by
   unfold frs
   rw [List.filterMap_cons,hf]
   exact List.mem_cons_self
  refine ⟨hk,⟨L,o,hf,hn,by rw [cut_lt (hl L hL)]; exact ho,hd⟩,funs_cut (fun b hb => hl b ?_) hr⟩
  unfold frs at hb ⊢
  rw [List.filterMap_cons,hf]
  exact List.mem_cons_of_mem _ hb
structure GFr.World (g:GFr) (s2:Shared) (H:Hp):Prop where
 bare:AllBare s2.gens
 size:g.lo ≤ s2.heap.objs.size
 kb:∀ b o,g.base.get? b = some o → s2.heap.get? b = some o ∧ H b = none
 ff:s2.heap.FunFrames g.base g.outer
 fn:∀ b ∈ frs g.outer,H b = none
theorem GFr.okX {g:GFr} (ok:g.Ok) {s2:Shared} {H:Hp} (W:g.World s2 H):(g.X s2 H).Ok where
 mod:=ok.mod
 kind:=ok.kind
 glob:=rfl
 blt:=rfl
 above:=by show (cutH g.lo s2.heap).objs.size ≤ g.lo; rw [cut_size W.size]; exact Nat.le_refl _
 inj:=fun x y c e _ => by
  have e':g.env.cells.lookup x = some c:=e
  rw [ok.nocell] at e'; cases e'
 has:=fun x h => h.elim (fun z => absurd z (ok.nc x).1) fun z => absurd z (ok.nc x).2
 cab:=fun x c _ e => by
  have e':g.env.cells.lookup x = some c:=e
  rw [ok.nocell] at e'; cases e'
 hd:=fun _ => ok.hd
 frames:=Around.frames_deeper ok.fr
 stk := .inr ⟨rfl,rfl⟩
 exf:=fun b hb => absurd (show b ∈ ([]:List Addr) from hb) (by simp)
 bs:=fun b o e => by
  have hb:b < g.lo:=Nat.lt_of_lt_of_le (Heap.lt_size e) ok.hbl
  exact ⟨by show (cutH g.lo s2.heap).get? b = _; rw [cut_lt hb]; exact (W.kb b o e).1,by show resH g.lo H b = none; rw [res_lt hb]; exact (W.kb b o e).2⟩
 bsz:=by show g.base.objs.size ≤ (cutH g.lo s2.heap).objs.size; rw [cut_size W.size]; exact ok.hbl
 noex:=fun b o _ hb => absurd (show b ∈ ([]:List Addr) from hb) (by simp)
 exfs:=fun b hb => absurd (show b ∈ ([]:List Addr) from hb) (by simp)
 funs:=funs_cut ok.fl W.ff
 frf:=fun b hb => by show resH g.lo H b = none; rw [res_lt (ok.fl b hb)]; exact W.fn b hb
theorem GFr.rebase {g:GFr} (ok:g.Ok) {s1 s s2:Shared} {H1 H:Hp} {pins pins':List (Addr × Obj)} {σ:L2.St} (I:Inv (g.X s1 H1) pins σ H s) (W:g.World s2 H)
  (kl:∀ o,s.heap.get? g.lo = some o → s2.heap.get? g.lo = some o) {F:Hp} (cov:Cov F H) (hF:HOk g.P g.w F s2.heap) (kt:∀ b u,H b = some u → F b = some u ∨ ∀ d,(d = b ∨ H d = some (.own b)) → ∀ o,s.heap.get? d = some o → s2.heap.get? d = some o)
  (kp:∀ p ∈ pins',s2.heap.get? p.1 = some p.2 ∧ H p.1 = none ∧ p.1 ≠ g.lo ∧ p.1 ∉ frs g.outer ∧ ∀ v,p.2.data ≠ .cell v):Inv (g.X s2 H) pins' σ H s2 where
 ok:=g.okX ok W
 os:=rfl
 bare:=W.bare
 base:=by
  refine ⟨fun b o e _ _ _ => (cut_at e).2,fun b o e _ _ _ => ⟨o.slots,(cut_at e).2⟩,fun b o e n _ => ?_,fun b o e _ => ⟨o,(cut_at e).2⟩,fun b xs e => (res_some e).2,fun b o u e => (res_some e).2,fun b ps e => ⟨#[],by rw [(res_some e).2]; simp⟩⟩
  have n':resH g.lo H b = none:=n
  rw [res_lt (cut_at e).1] at n'; exact n'
 loc:=by
  obtain ⟨m,hm,hv⟩:=I.loc
  refine ⟨m,hm.at fun o e => kl o e,fun i x v h1 h2 h3 => ?_⟩
  obtain ⟨u,r,l⟩:=hv i x v h1 h2 h3
  refine ⟨u,r,?_⟩
  rcases l with l | ⟨h,_⟩
  ·exact .inl l
  ·exact (h.elim (fun z => absurd z (ok.nc x).1) fun z => absurd z (ok.nc x).2)
 cell:=fun x c e => by
  have e':g.env.cells.lookup x = some c:=e
  rw [ok.nocell] at e'; cases e'
 free:=I.free
 freeC:=fun x c e => by
  have e':g.env.cells.lookup x = some c:=e
  rw [ok.nocell] at e'; cases e'
 pin:=fun p hp => kp p (by simpa using hp)
 hok:=fun b u e => (kt b u e).elim (fun f => (hF b u f).stay (fun _ _ _ q => q) (fun d z => cov.sub _ _ z) fun d xs z => cov.sub _ _ z) fun k => (I.hok b u e).stay (fun d v hc q => k d hc v q) (fun _ z => z) fun _ _ z => z
 len:=I.len
end
section
theorem bare_hid {s:Shared} (h:AllBare s.gens):AllBare (hidS s).gens:=fun y hy => by
 obtain ⟨z,hz,rfl⟩:=Array.mem_map.mp (show y ∈ s.gens.map hid from hy)
 rw [hid_bare]; exact h z hz
theorem inv_hid {X:Cx} {pins:List (Addr × Obj)} {σ:L2.St} {H:Hp} {s:Shared} (I:Inv X pins σ H s):Inv X pins σ H (hidS s):=⟨I.ok,I.os,bare_hid I.bare,I.base,I.loc,I.cell,I.free,I.freeC,I.pin,I.hok,I.len⟩
theorem inv_but {X:Cx} {pins:List (Addr × Obj)} {σ:L2.St} {H:Hp} {s x:Shared} (I:Inv X pins σ H s) (h:SameButGens s x):Inv X pins σ H x:=by
 obtain ⟨sh,sg,sd,st,so⟩:=s
 obtain ⟨xh,xg,xd,xt,xo⟩:=x
 obtain rfl:sh = xh:=h.heap
 obtain rfl:so = xo:=h.os
 exact ⟨I.ok,I.os,h.bare I.bare,I.base,I.loc,I.cell,I.free,I.freeC,I.pin,I.hok,I.len⟩
abbrev calm (X:Cx):Cx:={ X with xe:=fun _ _ => False }
theorem inv_calm {X:Cx} {pins:List (Addr × Obj)} {σ:L2.St} {H:Hp} {s:Shared} (I:Inv X pins σ H s):Inv (calm X) pins σ H s :=
 ⟨⟨I.ok.mod,I.ok.kind,I.ok.glob,I.ok.blt,I.ok.above,I.ok.inj,I.ok.has,I.ok.cab,I.ok.hd,I.ok.frames,I.ok.stk,I.ok.exf,I.ok.bs,I.ok.bsz,I.ok.noex,I.ok.exfs,I.ok.funs,I.ok.frf⟩,I.os,I.bare,I.base,I.loc,I.cell,I.free,I.freeC,I.pin,I.hok,I.len⟩
theorem inv_loud {X:Cx} {pins:List (Addr × Obj)} {σ:L2.St} {H:Hp} {s:Shared} (I:Inv (calm X) pins σ H s):Inv X pins σ H s :=
 ⟨⟨I.ok.mod,I.ok.kind,I.ok.glob,I.ok.blt,I.ok.above,I.ok.inj,I.ok.has,I.ok.cab,I.ok.hd,I.ok.frames,I.ok.stk,I.ok.exf,I.ok.bs,I.ok.bsz,I.ok.noex,I.ok.exfs,I.ok.funs,I.ok.frf⟩,I.os,I.bare,I.base,I.loc,I.cell,I.free,I.freeC,I.pin,I.hok,I.len⟩
theorem pg_held {X:Cx} {tg:Expr} {t:TG} (h:PG (calm X) tg t) {pins:List (Addr × Obj)} {s:Shared} {σ:L2.St} {H:Hp} {v:V} {u:Value} {Q:L2.St → Hp → Prop} {E:Value → Shared → Prop} (I:Inv X pins σ H s) (r:RelV v u) (ht:t v σ H Q) :
  wpAny (model X.prog X.w) X.A (assign tg X.env u) (fun _ s' => KeptG s.gens s'.gens ∧ ∃ σ' H',Inv X pins σ' H' s' ∧ Q σ' H') E s :=
 wpAny_mono (wpAny_held (h.run pins (hidS s) σ H v u Q (inv_hid (inv_calm I)) r ht)) (fun _ s' ⟨k,s'',b,σ',H',J,q⟩ => ⟨k,σ',H',inv_loud (inv_but J b),q⟩) fun _ _ ⟨_,_,_,z⟩ => z.elim
theorem ps_held {X:Cx} {st:Stmt} {t:TS} (h:PS (calm X) st t) {pins:List (Addr × Obj)} {s:Shared} {σ:L2.St} {H:Hp} {D:Ends} {E:Value → Shared → Prop} (I:Inv X pins σ H s) (ht:t D σ H) :
  wpAny (model X.prog X.w) X.A (exec st X.env) (fun f s' => KeptG s.gens s'.gens ∧ SP X pins D f s') E s :=
 wpAny_mono (wpAny_held (h.run pins (hidS s) σ H D (inv_hid (inv_calm I)) ht)) (fun f s' ⟨k,s'',b,q⟩ => ⟨k,by
  cases f with
  | next => obtain ⟨σ',H',J,z⟩:=q; exact ⟨σ',H',inv_loud (inv_but J b),z⟩
  | brk => obtain ⟨σ',H',J,z⟩:=q; exact ⟨σ',H',inv_loud (inv_but J b),z⟩
  | cont => obtain ⟨σ',H',J,z⟩:=q; exact ⟨σ',H',inv_loud (inv_but J b),z⟩
  | ret u => obtain ⟨v,σ',H',J,rv,z⟩:=q; exact ⟨v,σ',H',inv_loud (inv_but J b),rv,z⟩⟩) fun _ _ ⟨_,_,_,z⟩ => z.elim
theorem pt_held {X:Cx} {e:Expr} {t:TT} (h:PT (calm X) e t) {pins:List (Addr × Obj)} {s:Shared} {σ:L2.St} {H:Hp} {Q:Bool → Hp → Prop} {E:Value → Shared → Prop} (I:Inv X pins σ H s) (ht:t σ H Q) :
  wpAny (model X.prog X.w) X.A (isTrue e X.env (eval e X.env)) (fun b s' => KeptG s.gens s'.gens ∧ TP X pins σ Q b s') E s :=
 wpAny_mono (wpAny_held (h.run pins (hidS s) σ H Q (inv_hid (inv_calm I)) ht)) (fun b s' ⟨k,s'',c,H',J,z⟩ => ⟨k,H',inv_loud (inv_but J c),z⟩) fun _ _ ⟨_,_,_,z⟩ => z.elim
theorem pe_held {X:Cx} {e:Expr} {t:TE} (h:PE (calm X) e t) {pins:List (Addr × Obj)} {s:Shared} {σ:L2.St} {H:Hp} {Q:VK} {E:Value → Shared → Prop} (I:Inv X pins σ H s) (ht:t σ H Q) :
  wpAny (model X.prog X.w) X.A (eval e X.env) (fun u s' => KeptG s.gens s'.gens ∧ EP X pins σ Q u s') E s :=
 wpAny_mono (wpAny_held (h.run pins (hidS s) σ H Q (inv_hid (inv_calm I)) ht)) (fun b s' ⟨k,s'',c,v,H',J,r,z⟩ => ⟨k,v,H',inv_loud (inv_but J c),r,z⟩) fun _ _ ⟨_,_,_,z⟩ => z.elim
structure Turned (P:Program) (w:World) (F:Hp) (lo gi:Nat) (fr Z:List Addr) (s2 s3:Shared):Prop where
 os:s3.os = s2.os
 bare:AllBare s3.gens
 gens:∀ (j:Nat) (y:GenState),j < gi → s2.gens[j]? = some y → isFresh y = false → s3.gens[j]? = some y
 keep:∀ b o,b < lo → F b = none → b ∉ fr → s2.heap.get? b = some o → s3.heap.get? b = some o
 slot:∀ b o,b < lo → b ∈ fr → s2.heap.get? b = some o → ∃ sl,s3.heap.get? b = some { o with slots:=sl }
 fz:HOk P w F s3.heap
 zk:∀ b o,b ∈ Z → s2.heap.get? b = some o → s3.heap.get? b = some o
structure Slept (P:Program) (w:World) (base:Heap) (outer:List Env) (lo:Nat) (F:Hp) (Z own:List Addr) (gown:List Nat) (s s2:Shared):Prop where
 bare:AllBare s2.gens
 kb:∀ b o,base.get? b = some o → s2.heap.get? b = some o
 ff:s2.heap.FunFrames base outer
 own:∀ b o,b ∈ own → s.heap.get? b = some o → s2.heap.get? b = some o
 gens:∀ (j:Nat) (y:GenState),j ∈ gown → s.gens[j]? = some y → s2.gens[j]? = some y
 fz:HOk P w F s2.heap
 zz:∀ b ∈ Z,∃ o,s2.heap.get? b = some o ∧ (∀ v,o.data ≠ .cell v) ∧ b ∉ frs outer ∧ lo ≤ b
def OwnOk (lo gi:Nat) (Z own:List Addr) (gown:List Nat) (s:Shared):Prop:=(∀ b ∈ own,lo ≤ b ∧ b ∉ Z ∧ ∃ o,s.heap.get? b = some o ∧ ∀ v,o.data ≠ .cell v) ∧ gi ∈ gown ∧ ∀ j ∈ gown,gi ≤ j
def NF (gown:List Nat) (s:Shared):Prop:=∀ (j:Nat) (y:GenState),j ∈ gown → s.gens[j]? = some y → isFresh y = false
structure GC where
 P:Program
 w:World
 base:Heap
 A:Around
 outer:List Env
 lo:Nat
 gi:Nat
 a:Addr
 F:Hp
 Z:List Addr
def GenP (c:GC):Bool → List Value → Shared → Prop
 | b,[],s => ∃ own gown,c.a ∈ own ∧ OwnOk c.lo c.gi c.Z own gown s ∧ (b = true → NF gown s) ∧ ∀ s2,Slept c.P c.w c.base c.outer c.lo c.F c.Z own gown s s2 → wpAny (model c.P c.w) c.A (pyNext (.ref c.a)) (fun r s3 => r = none ∧ Turned c.P c.w c.F c.lo c.gi (frs c.outer) c.Z s2 s3) (fun _ _ => False) s2
 | b,v :: vs,s => ∃ own gown,c.a ∈ own ∧ OwnOk c.lo c.gi c.Z own gown s ∧ (b = true → NF gown s) ∧ ∀ s2,Slept c.P c.w c.base c.outer c.lo c.F c.Z own gown s s2 →
   wpAny (model c.P c.w) c.A (pyNext (.ref c.a)) (fun r s3 => r = some v ∧ Turned c.P c.w c.F c.lo c.gi (frs c.outer) c.Z s2 s3 ∧ s3.heap.IsGen c.a c.gi ∧ GenP c true vs s3) (fun _ _ => False) s2
theorem obj_there {P:Program} {w:World} {H:Hp} {h:Heap} {a:Addr} {o:HO} (x:ObjOk P w H h a o):∃ ob,h.get? a = some ob:=by
 cases o with
 | lst xs => obtain ⟨_,_,_,_,e⟩:=x; exact ⟨_,e⟩
 | tup xs => obtain ⟨_,_,_,ob,e,_⟩:=x; exact ⟨ob,e⟩
 | dK kvs => obtain ⟨_,_,_,_,o,_,_,e,_⟩:=x; exact ⟨o,e⟩
 | dT kvs => obtain ⟨_,_,_,_,o,_,_,e,_⟩:=x; exact ⟨o,e⟩
 | set S n => obtain ⟨o,_,_,_,e,_⟩:=x; exact ⟨o,e⟩
 | ins C dx fs => obtain ⟨_,_,_,e,_⟩:=x; exact ⟨_,e⟩
 | own y => exact x
 | xd fs => obtain ⟨_,⟨o,_,_,e,_⟩,_⟩:=x; exact ⟨o,e⟩
 | rng lo hi => obtain ⟨_,_,_,e⟩:=x; exact ⟨_,e⟩
 | frz ob u => obtain ⟨e,_⟩:=x; exact ⟨_,e⟩
 | tbl ps => exact ⟨_,show h.get? a = some _ from x⟩
 | met f y => exact ⟨_,show h.get? a = some _ from x⟩
 | ext φ => obtain ⟨_,e,_⟩:=x; exact e
structure Far (X:Cx) (pins:List (Addr × Obj)) (H:Hp) (lo:Nat):Prop where
 h:∀ b u,H b = some u → b < lo
 p:∀ p ∈ X.pn ++ pins,p.1 < lo
 l:X.env.locals < lo
 c:∀ x c,X.env.cells.lookup x = some c → c < lo
 z:X.s_0.heap.objs.size ≤ lo
theorem inv_turned {X:Cx} {pins:List (Addr × Obj)} {σ:L2.St} {H:Hp} {s2 s3:Shared} {lo gi:Nat} {F:Hp} {Z:List Addr} (I:Inv X pins σ H s2) (T:Turned X.prog X.w F lo gi (frs X.stack) Z s2 s3) (f:Far X pins H lo) (cv:Cov F H):Inv X pins σ H s3:=by
 have ge:∀ b ∈ List.range' lo (s2.heap.objs.size - lo),lo ≤ b:=fun b hb => (List.mem_range'_1.mp hb).1
 have lt:∀ b o,s2.heap.get? b = some o → b ∉ List.range' lo (s2.heap.objs.size - lo) → b < lo:=fun b o e hb => by
  have h1:=Heap.lt_size e
  rcases Nat.lt_or_ge b lo with q | q
  ·exact q
  ·exact absurd (List.mem_range'_1.mpr ⟨q,by rw [Nat.add_sub_cancel' (Nat.le_of_lt (Nat.lt_of_le_of_lt q h1))]; exact h1⟩) hb
 have tr:∀ b u,H b = some u → b ∉ frs X.stack:=fun b u e hb => by
  have:=I.stkFree b hb
  rw [this] at e; cases e
 have fnone:∀ b,H b = none → F b = none:=fun b n => by
  cases q:F b with
  | none => rfl
  | some u => rw [cv.sub b u q] at n; cases n
 refine I.call' (ch:=List.range' lo (s2.heap.objs.size - lo)) T.os ⟨fun b o e n hb hx => T.keep b o (lt b o e hx) (fnone b n) hb e,fun b o e n hb hx => T.slot b o (lt b o e hx) hb e,fun b o e n hx => n,fun b o e hx => ?_,fun _ _ e => e,fun _ _ _ e => e,fun b ps e => ⟨#[],by rw [e]; simp⟩⟩ ?_ T.bare (fun b hb => ?_)
 ·by_cases q:b ∈ frs X.stack
  ·obtain ⟨sl,e1⟩:=T.slot b o (lt b o e hx) q e
   exact ⟨_,e1⟩
  ·cases qF:F b with
   | none => exact ⟨o,T.keep b o (lt b o e hx) qF q e⟩
   | some u => exact obj_there (T.fz b u qF)
 ·intro b u e
  cases qF:F b with
  | some u' =>
   obtain rfl:u' = u:=Option.some.inj ((cv.sub b u' qF).symm.trans e)
   exact (T.fz b _ qF).stay (fun _ _ _ z => z) (fun c z => cv.sub _ _ z) fun c xs z => cv.sub _ _ z
  | none =>
   refine (I.hok b u e).stay (fun c v hc q => ?_) (fun _ z => z) fun _ _ z => z
   have hcH:(∃ u',H c = some u') ∧ F c = none:=by
    rcases hc with z | z
    ·subst z; exact ⟨⟨_,e⟩,qF⟩
    ·refine ⟨⟨_,z⟩,?_⟩
     cases y:F c with
     | none => rfl
     | some u2 =>
      have e2:=cv.sub c u2 y
      rw [z] at e2
      obtain rfl:=Option.some.inj e2
      obtain ⟨u3,q3⟩:=cv.fr.clo c b y
      rw [qF] at q3; cases q3
   obtain ⟨⟨u',hu⟩,fc⟩:=hcH
   exact T.keep c v (f.h c u' hu) fc (tr c u' hu) q
 ·have hb':=ge b hb
  exact ⟨.inr (Nat.le_trans f.z hb'),Nat.ne_of_gt (Nat.lt_of_lt_of_le f.l hb'),fun x c e => Nat.ne_of_lt (Nat.lt_of_lt_of_le (f.c x c e) hb'),fun p hp => Nat.ne_of_lt (Nat.lt_of_lt_of_le (f.p p hp) hb')⟩
end
section
theorem slept_of {X:Cx} {pins:List (Addr × Obj)} {σ:L2.St} {F H:Hp} {lo:Nat} {own:List Addr} {gown:List Nat} {s s2:Shared} (I:Inv X pins σ H s2) (c:Cov F H) (ho:∀ b o,b ∈ own → s.heap.get? b = some o → s2.heap.get? b = some o)
  (hg:∀ (j:Nat) (y:GenState),j ∈ gown → s.gens[j]? = some y → s2.gens[j]? = some y):Slept X.prog X.w X.base X.stack lo F [] own gown s s2:=⟨I.bare,I.bk,I.env0.funs,ho,hg,c.hok I.hok,fun b hb => by simp at hb⟩
def Post (c:GC) (s2:Shared):List Value → Option Value → Shared → Prop
 | [],r,s3 => r = none ∧ Turned c.P c.w c.F c.lo c.gi (frs c.outer) c.Z s2 s3
 | v :: vs,r,s3 => r = some v ∧ Turned c.P c.w c.F c.lo c.gi (frs c.outer) c.Z s2 s3 ∧ s3.heap.IsGen c.a c.gi ∧ GenP c true vs s3
def Wake (c:GC) (vs:List Value) (s2:Shared):Prop:=wpAny (model c.P c.w) c.A (pyNext (.ref c.a)) (Post c s2 vs) (fun _ _ => False) s2
theorem genP_wake {c:GC} {b:Bool} {vs:List Value} {s:Shared} (h:GenP c b vs s):∃ own gown,c.a ∈ own ∧ OwnOk c.lo c.gi c.Z own gown s ∧ (b = true → NF gown s) ∧ ∀ s2,Slept c.P c.w c.base c.outer c.lo c.F c.Z own gown s s2 → Wake c vs s2:=by
 cases vs with
 | nil => exact h
 | cons v vs => exact h
def GenV (X:Cx) (pins:List (Addr × Obj)) (σ:L2.St) (k:Nat) (Kt:List V → Hp → Hp → Nat → Prop) (n0:Nat) (u:Value) (s1:Shared):Prop :=
 ∃ (c:GC) (vs:List Value) (L:List V) (H1:Hp),u = .ref c.a ∧ c.P = X.prog ∧ c.w = X.w ∧ c.base = X.base ∧ c.outer = X.stack ∧ Vals L vs ∧ Inv X pins σ H1 s1 ∧ s1.heap.IsGen c.a c.gi ∧ Far X pins H1 c.lo ∧ (∀ A Z,A.frames = some X.stack → Room k A → (∀ b ∈ Z,s1.heap.objs.size ≤ b) → GenP { c with A:=A,Z:=Z } false vs s1) ∧ n0 ≤ c.gi ∧ Cov c.F H1 ∧ Kt L H1 c.F c.lo
abbrev TGi:=L2.St → Hp → (List V → Hp → Hp → Nat → Prop) → Prop
structure PGi (X:Cx) (k:Nat) (e:Expr) (t:TGi):Prop where
 run:∀ (pins:List (Addr × Obj)) (s:Shared) (σ:L2.St) (H:Hp) (Kt:List V → Hp → Hp → Nat → Prop),Inv X pins σ H s → t σ H Kt → wpAny (model X.prog X.w) X.A (eval e X.env) (GenV X pins σ k Kt s.gens.size) X.xe s
theorem fs_lt {X:Cx} {pins:List (Addr × Obj)} {σ:L2.St} {H:Hp} {s:Shared} {lo:Nat} (I:Inv X pins σ H s) (f:Far X pins H lo):∀ b ∈ X.fs,b < lo:=fun b hb => by
 obtain ⟨_,o,e,_⟩:=I.ok.funs.mem hb
 exact Nat.lt_of_lt_of_le (Heap.lt_size e) f.z
theorem gen_go {M:Model} {A:Around} {E:Value → Shared → Prop} {s:Shared} {tg:Expr} {a:Addr} {g:Nat} {u:Value} {Q:Unit → Shared → Prop} (h:s.heap.IsGen a g) (hQ:Q () s):wpAny M A (letOwnedTupleGo tg (.ref a) u) Q E s:=by
 obtain ⟨o,nm,qn,ho,hc,hd,hs⟩:=h
 exact go_of ho hc hd (by decide) hQ
end
end GG
namespace GG
open PySem PySem.Spec PyProof.Rows L2 GenW
section
section
variable {M:Model} {A:Around} {R:GenEnd} {Y:Protocol} {n:Nat} {s₀:Shared} {c:Code} {fs:List Frame} {s:Shared} {env:Env}
 {K:Flow → Sem PySem.Fin} {J:Value → Sem PySem.Fin} {gd:Bool → Bool} {lv:List Value → List Value}
def backOf (env:Env) (K:Flow → Sem PySem.Fin) (J:Value → Sem PySem.Fin) (gd:Bool → Bool) (lv:List Value → List Value):Result → Sem PySem.Fin :=
 fun r => ((match r with | .ok f => (.pure f:Sem Flow) | .error e => .raise e).onRaise fun (x:Value) => do
    if (← field x 1) == Value.none then unsupported "frame.own-activation:exception-without-traceback"
    setFlight x env.frame).wrap K J gd lv
theorem seg_For {target iter:Expr} {body orelse:List Stmt} {pos:Pos} (hs:∀ x,foldedSetIterable iter env x = pure x)
  (h:wpAny M (A.over c fs) (eval iter env) (fun x s1 => wpAny M (A.over c fs) (pyIter x) (fun it s2 =>
   ∀ p,Seg M A R Y n s₀ (.forLoop target it body orelse env) (M.den (.forLoop target it body orelse env)) (.ret (backOf env K J gd lv) none (gd false) (lv []) c p [] :: fs) s2) (fun _ _ => False) s1) (fun _ _ => False) s) :
  Seg M A R Y n s₀ c ((exec (.For target iter body orelse pos) env).wrap K J gd lv) fs s:=by
 rw [exec_For]
 refine seg_bind_wrap (wpAny_standAt ?_)
 refine seg_bind_wrap (wpAny_mono h (fun x s1 h1 => ?_) fun _ _ z => z.elim)
 refine seg_bind_wrap (wpAny_of_eq (hs x) ?_)
 refine seg_bind_wrap (wpAny_standAt ?_)
 refine seg_bind_wrap (wpAny_holding (wpAny_mono h1 (fun it s2 h2 => ?_) fun _ _ z => z.elim))
 exact seg_call h2
theorem seg_forDone {prog:Program} {w:World} {target:Expr} {it:Value} {body:List Stmt} {A:Around} {R:GenEnd} {Y:Protocol}
  (h:Seg (model prog w) A R Y n s₀ (.block [] env) (.pure (.done .next)) fs s):Seg (model prog w) A R Y n s₀ (.forLoop target it body [] env) (.pure (.again (.block [] env))) fs s:=by
 refine seg_again rfl ?_
 exact h
theorem seg_forTurn {prog:Program} {w:World} {target:Expr} {it:Value} {body:List Stmt} {A:Around} {R:GenEnd} {Y:Protocol}
  (h:wpAny (model prog w) (A.over (.forLoop target it body [] env) fs) (pyNext it) (fun r s1 => match r with
   | none => Seg (model prog w) A R Y n s₀ (.block [] env) (.pure (.done .next)) fs s1
   | some v => wpAny (model prog w) (A.over (.forLoop target it body [] env) fs) (letOwnedTupleGo target it v) (fun _ s2 => wpAny (model prog w) (A.over (.forLoop target it body [] env) fs) (assign target env v) (fun _ s3 =>
     Seg (model prog w) A R Y n s₀ (.forLoop target it body [] env) ((execs body env).wrap (fun f => match f with
      | .next | .cont => .pure (.again (.forLoop target it body [] env))
      | .brk => .pure (.done .next)
      | .ret v => .pure (.done (.ret v))) (fun e => (do noteFrame e env; theTreesLotGoes e:Sem Unit).wrap (fun _ => .raise e) .raise id id) id id) fs s3) (fun _ _ => False) s2) (fun _ _ => False) s1) (fun _ _ => False) s) :
  Seg (model prog w) A R Y n s₀ (.forLoop target it body [] env) ((model prog w).den (.forLoop target it body [] env)) fs s:=by
 show Seg _ A R Y n s₀ _ ((forTurn target it body [] env).onRaise (fun x => do noteFrame x env; theTreesLotGoes x)) fs s
 unfold forTurn
 rw [Sem.onRaise_eq_wrap]
 refine seg_bind_wrap (wpAny_standAt ?_)
 refine seg_bind_wrap (wpAny_onRaise (wpAny_mono h (fun r s1 h1 => ?_) fun _ _ z => z.elim))
 cases r with
 | none =>
  show Seg _ A R Y n s₀ _ (.pure (.again (.block [] env))) fs s1
  exact seg_forDone h1
 | some v =>
  refine seg_bind_wrap (wpAny_mono h1 (fun _ s2 h2 => ?_) fun _ _ z => z.elim)
  refine seg_bind_wrap (wpAny_mono h2 (fun _ s3 h3 => ?_) fun _ _ z => z.elim)
  rw [Sem.bind_eq_wrap',Sem.wrap_wrap]
  rw [Sem.wrap_congr (execs body env) _ _ (K':=fun f => match f with
      | .next | .cont => .pure (.again (.forLoop target it body [] env))
      | .brk => .pure (.done .next)
      | .ret v => .pure (.done (.ret v))) (H':=(fun e => (do noteFrame e env; theTreesLotGoes e:Sem Unit).wrap (fun _ => .raise e) .raise id id))
    (fun f => by cases f <;> rfl)
    (fun e => by first | exact Sem.bind_eq_wrap _ _ | (show (do noteFrame e env; theTreesLotGoes e:Sem Unit).bind (fun _ => .raise e) = _; rw [Sem.bind_eq_wrap]))]
  exact h3
end
end
end GG
namespace GG
open PySem PySem.Spec PyProof.Rows L2 GenW
section
structure OkH (g:GFr) (F H:Hp):Prop where
 cov:Cov F H
 own:∃ ow:List Addr,∀ b u,H b = some u → F b = some u ∨ (g.lo ≤ b ∧ b ∈ ow ∧ ∃ kvs,u = .dK kvs)
structure Stat (g:GFr) (gi:Nat) (a:Addr) (F:Hp) (pins:List (Addr × Obj)) (gp:List (Nat × GenState)):Prop where
 ok:g.Ok
 flo:∀ b u,F b = some u → b < g.lo
 pn:∀ p ∈ pins,g.lo ≤ p.1
 ga:∃ go nm qn,(a,go) ∈ pins ∧ go.cls = .type "generator" ∧ go.data = .fields #[.int gi 0,nm,qn] ∧ go.slots = #[]
 gpi:∀ p ∈ gp,gi < p.1 ∧ isFresh p.2 = false
 pz:∀ p ∈ pins,p.1 ∉ g.Z
 zlo:∀ b ∈ g.Z,g.lo ≤ b
structure Here (g:GFr) (gi:Nat) (F:Hp) (sw:Shared) (Hw:Hp) (pins:List (Addr × Obj)) (gp:List (Nat × GenState)) (σ:L2.St) (H:Hp) (s:Shared):Prop where
 inv:Inv (g.X sw Hw) (pinsAt g.Z sw.heap ++ pins) σ H s
 zex:∀ b ∈ g.Z,∃ o,sw.heap.get? b = some o
 kb:∀ (j:Nat) (y:GenState),j ≤ gi → sw.gens[j]? = some y → isFresh y = false → s.gens[j]? = some y
 run:sw.gens[gi]? = some .running
 ok:OkH g F H
 hw:∀ b,b < g.lo → Hw b = F b
 gpin:∀ p ∈ gp,s.gens[p.1]? = some p.2
 size:g.lo ≤ sw.heap.objs.size
section
variable {g:GFr} {gi:Nat} {a:Addr} {F:Hp} {sw s:Shared} {Hw:Hp} {pins:List (Addr × Obj)} {gp:List (Nat × GenState)} {σ:L2.St} {H:Hp}
theorem Here.turned (S:Stat g gi a F pins gp) (h:Here g gi F sw Hw pins gp σ H s):Turned g.P g.w F g.lo gi (frs g.outer) g.Z sw s where
 os:=h.inv.os
 bare:=h.inv.bare
 gens:=fun j y hj e f => h.kb j y (Nat.le_of_lt hj) e f
 keep:=fun b o hb hF hf e => h.inv.base.keep b o (by show (cutH g.lo sw.heap).get? b = _; rw [cut_lt hb]; exact e) (by show resH g.lo Hw b = none; rw [res_lt hb,h.hw b hb]; exact hF) hf (by show b ∉ ([]:List Addr); simp)
 slot:=fun b o hb hf e => h.inv.base.slot b o (by show (cutH g.lo sw.heap).get? b = _; rw [cut_lt hb]; exact e) (h.inv.ok.frf b hf) hf (by show b ∉ ([]:List Addr); simp)
 fz:=h.ok.cov.hok h.inv.hok
 zk:=fun b o hb e => (h.inv.pin (b,o) (List.mem_append_right _ (List.mem_append_left _ (mem_pinsAt hb e)))).1
theorem Here.isGen (S:Stat g gi a F pins gp) (h:Here g gi F sw Hw pins gp σ H s):s.heap.IsGen a gi:=by
 obtain ⟨go,nm,qn,hm,h1,h2,h3⟩:=S.ga
 exact ⟨go,nm,qn,(h.inv.pin (a,go) (List.mem_append_right _ (List.mem_append_right _ hm))).1,h1,h2,h3⟩
theorem Here.running (h:Here g gi F sw Hw pins gp σ H s):s.gens[gi]? = some .running:=h.kb gi _ (Nat.le_refl _) h.run rfl
theorem Here.sleep (S:Stat g gi a F pins gp) (h:Here g gi F sw Hw pins gp σ H s):∃ own gown,a ∈ own ∧ OwnOk g.lo gi g.Z own gown s ∧ NF gown s ∧
  ∀ s2,Slept g.P g.w g.base g.outer g.lo F g.Z own gown s s2 → Here g gi F s2 H pins gp σ H s2:=by
 obtain ⟨ow,how⟩:=h.ok.own
 have zp:∀ b ∈ g.Z,H b = none ∧ b ≠ g.lo ∧ b ∉ frs g.outer:=fun b hb => by
  obtain ⟨o,e⟩:=h.zex b hb
  obtain ⟨_,q1,q2,q3,_⟩:=h.inv.pin (b,o) (List.mem_append_right _ (List.mem_append_left _ (mem_pinsAt hb e)))
  exact ⟨q1,q2,q3⟩
 obtain ⟨go,nm,qn,hga,_⟩:=S.ga
 have dK:∀ b,g.lo ≤ b → (H b).isSome = true → b ∈ ow ∧ ∃ kvs,H b = some (.dK kvs):=fun b hb hs => by
  obtain ⟨u,e⟩:=Option.isSome_iff_exists.mp hs
  rcases how b u e with q | ⟨_,q,kvs,rfl⟩
  ·exact absurd (Nat.lt_of_lt_of_le (S.flo b u q) hb) (Nat.lt_irrefl _)
  ·exact ⟨q,kvs,e⟩
 refine ⟨g.lo :: (ow.filter (fun b => decide (g.lo ≤ b) && (H b).isSome) ++ pins.map (·.1)),gi :: gp.map (·.1),?_,⟨fun b hb => ?_,List.mem_cons_self,fun j hj => ?_⟩,fun j y hj e => ?_,fun s2 z => ?_⟩
 ·exact List.mem_cons_of_mem _ (List.mem_append_right _ (List.mem_map.mpr ⟨_,hga,rfl⟩))
 ·rcases List.mem_cons.mp hb with rfl | hb
  ·obtain ⟨m,⟨o,es,ep,ho,hd,_⟩,_⟩:=h.inv.loc
   exact ⟨Nat.le_refl _,fun z => (zp _ z).2.1 rfl,o,ho,fun v q => by rw [hd] at q; cases q⟩
  ·rcases List.mem_append.mp hb with hb | hb
   ·obtain ⟨h1,h2⟩:=List.mem_filter.mp hb
    simp only [Bool.and_eq_true,decide_eq_true_eq] at h2
    obtain ⟨_,kvs,e⟩:=dK b h2.1 h2.2
    obtain ⟨_,_,vs,_,o,es,ep,ho,_,hd,_⟩:=(show ObjOk g.P g.w H s.heap b (.dK kvs) from h.inv.hok b _ e)
    exact ⟨h2.1,(fun z => by rw [(zp _ z).1] at e; cases e),o,ho,fun v q => by rw [hd] at q; cases q⟩
   ·obtain ⟨p,hp,rfl⟩:=List.mem_map.mp hb
    obtain ⟨e,_,_,_,nc⟩:=h.inv.pin p (List.mem_append_right _ (List.mem_append_right _ hp))
    exact ⟨S.pn p hp,S.pz p hp,p.2,e,nc⟩
 ·rcases List.mem_cons.mp hj with rfl | hj
  ·exact Nat.le_refl _
  ·obtain ⟨p,hp,rfl⟩:=List.mem_map.mp hj
   exact Nat.le_of_lt (S.gpi p hp).1
 ·rcases List.mem_cons.mp hj with rfl | hj
  ·rw [h.running] at e
   obtain rfl:=Option.some.inj e
   rfl
  ·obtain ⟨p,hp,rfl⟩:=List.mem_map.mp hj
   rw [h.gpin p hp] at e
   obtain rfl:=Option.some.inj e
   exact (S.gpi p hp).2
 ·have keep:∀ b o,b ∈ g.lo :: (ow.filter (fun b => decide (g.lo ≤ b) && (H b).isSome) ++ pins.map (·.1)) → s.heap.get? b = some o → s2.heap.get? b = some o:=z.own
  have kpin:∀ p ∈ pins,s2.heap.get? p.1 = some p.2:=fun p hp => keep _ _ (List.mem_cons_of_mem _ (List.mem_append_right _ (List.mem_map.mpr ⟨p,hp,rfl⟩))) (h.inv.pin p (List.mem_append_right _ (List.mem_append_right _ hp))).1
  have rn:s2.gens[gi]? = some .running:=z.gens gi _ List.mem_cons_self h.running
  refine ⟨GFr.rebase S.ok h.inv ⟨z.bare,Nat.le_of_lt (Nat.lt_of_le_of_lt (S.pn _ hga) (Heap.lt_size (kpin _ hga))),fun b o e => ⟨z.kb b o e,(h.inv.bs b o e).2⟩,z.ff,fun b hb => h.inv.stkFree b (List.mem_cons_of_mem _ hb)⟩ (fun o e => keep _ _ List.mem_cons_self e) h.ok.cov z.fz (fun b u e => ?_) (fun p hp => ?_),fun b hb => (z.zz b hb).imp fun o q => q.1,fun j y _ e _ => e,rn,h.ok,fun b hb => ?_,fun p hp => ?_,Nat.le_of_lt (Nat.lt_of_le_of_lt (S.pn _ hga) (Heap.lt_size (kpin _ hga)))⟩
  ·rcases how b u e with q | ⟨hb,hm,kvs,rfl⟩
   ·exact .inl q
   ·refine .inr fun d hd o eo => ?_
    have db:d = b:=by
     rcases hd with q | q
     ·exact q
     ·rcases how d _ q with q2 | ⟨_,_,_,q2⟩
      ·obtain ⟨u2,q3⟩:=h.ok.cov.fr.clo d b q2
       exact absurd (Nat.lt_of_lt_of_le (S.flo b _ q3) hb) (Nat.lt_irrefl _)
      ·cases q2
    subst db
    exact keep _ _ (List.mem_cons_of_mem _ (List.mem_append_left _ (List.mem_filter.mpr ⟨hm,by simp [hb,e]⟩))) eo
  ·rcases List.mem_append.mp hp with hp | hp
   ·obtain ⟨hz,e⟩:=of_pinsAt hp
    obtain ⟨o,e2,nc,_⟩:=z.zz _ hz
    rw [e] at e2
    obtain rfl:=Option.some.inj e2
    exact ⟨e,(zp _ hz).1,(zp _ hz).2.1,(zp _ hz).2.2,nc⟩
   ·obtain ⟨_,b1,b2,b3,b4⟩:=h.inv.pin p (List.mem_append_right _ (List.mem_append_right _ hp))
    exact ⟨kpin p hp,b1,b2,b3,b4⟩
  ·cases q:H b with
   | none =>
    cases q2:F b with
    | none => rfl
    | some u => rw [h.ok.cov.sub b u q2] at q; cases q
   | some u =>
    rcases how b u q with q2 | ⟨q2,_⟩
    ·exact q2.symm
    ·exact absurd (Nat.lt_of_lt_of_le hb q2) (Nat.lt_irrefl _)
  ·exact z.gens _ _ (List.mem_cons_of_mem _ (List.mem_map.mpr ⟨p,hp,rfl⟩)) (h.gpin p hp)
end
end
section
def Yp (g:GFr) (gi:Nat) (a:Addr) (F:Hp) (vs0:List Value):Protocol:=fun n s₀ v s kap => ∃ own gown i,i + n + 1 = vs0.length ∧ vs0[i]? = some v ∧ a ∈ own ∧ OwnOk g.lo gi g.Z own gown s ∧ NF gown s ∧ s.heap.IsGen a gi ∧ s.gens[gi]? = some .running ∧
 Turned g.P g.w F g.lo gi (frs g.outer) g.Z s₀ s ∧ Slept g.P g.w g.base g.outer g.lo F g.Z own gown s s ∧ ∀ s2,Slept g.P g.w g.base g.outer g.lo F g.Z own gown s s2 → kap (.send .none) s2
def Rp (g:GFr) (gi:Nat) (F:Hp):GenEnd:=fun n s₀ r s => ((r = .ok (.ret .none) ∨ r = .ok .next) ∧ n = 0 ∧ Turned g.P g.w F g.lo gi (frs g.outer) g.Z s₀ s) ∨ ∃ e,r = .error e ∧ False
abbrev SG (g:GFr) (gi:Nat) (a:Addr) (F:Hp) (vs0:List Value) (n:Nat) (s₀:Shared) (c:Code) (t:Sem PySem.Fin) (fs:List Frame) (s:Shared):Prop:=Seg (model g.P g.w) g.A (Rp g gi F) (Yp g gi a F vs0) n s₀ c t fs s
structure Fr8 (g:GFr) (c:Code) (fs:List Frame) (gd:Bool → Bool):Prop where
 over:g.A.over c fs = g.A.deeper g.env
 split:splitAtGen fs = none
 guard:fs.any Frame.guarded = false
 gd:gd false = false
abbrev PrS:=Nat → L2.St → Hp → Prop
def Cont (g:GFr) (gi:Nat) (a:Addr) (F:Hp) (vs0:List Value) (pins:List (Addr × Obj)) (gp:List (Nat × GenState)) (post:PrS) (c:Code) (t:Sem PySem.Fin) (fs:List Frame):Prop :=
 ∀ n s₀ s Hw σ H i,Here g gi F s₀ Hw pins gp σ H s → i + n = vs0.length → post i σ H → SG g gi a F vs0 n s₀ c t fs s
structure Tri (g:GFr) (gi:Nat) (a:Addr) (F:Hp) (vs0:List Value) (pins:List (Addr × Obj)) (gp:List (Nat × GenState)) (st:Stmt) (pre post:PrS):Prop where
 run:∀ (c:Code) (fs:List Frame) (K:Flow → Sem PySem.Fin) (J:Value → Sem PySem.Fin) (gd:Bool → Bool) (lv:List Value → List Value),Fr8 g c fs gd → Cont g gi a F vs0 pins gp post c (K .next) fs → Cont g gi a F vs0 pins gp pre c ((exec st g.env).wrap K J gd lv) fs
structure Tris (g:GFr) (gi:Nat) (a:Addr) (F:Hp) (vs0:List Value) (pins:List (Addr × Obj)) (gp:List (Nat × GenState)) (st:List Stmt) (pre post:PrS):Prop where
 run:∀ (c:Code) (fs:List Frame) (K:Flow → Sem PySem.Fin) (J:Value → Sem PySem.Fin) (gd:Bool → Bool) (lv:List Value → List Value),Fr8 g c fs gd → Cont g gi a F vs0 pins gp post c (K .next) fs → Cont g gi a F vs0 pins gp pre c ((execs st g.env).wrap K J gd lv) fs
section
variable {g:GFr} {gi:Nat} {a:Addr} {F:Hp} {vs0:List Value} {pins:List (Addr × Obj)} {gp:List (Nat × GenState)} {st:Stmt} {rest body orelse:List Stmt} {pre mid post preT preF:PrS}
theorem Here.next {sw s s':Shared} {Hw H H':Hp} {σ σ':L2.St} (S:Stat g gi a F pins gp) (h:Here g gi F sw Hw pins gp σ H s) (k:KeptG s.gens s'.gens) (I:Inv (g.X sw Hw) (pinsAt g.Z sw.heap ++ pins) σ' H' s') (ok:OkH g F H'):Here g gi F sw Hw pins gp σ' H' s' where
 inv:=I
 zex:=h.zex
 kb:=fun j y hj e f => k j y (h.kb j y hj e f) f
 run:=h.run
 ok:=ok
 hw:=h.hw
 gpin:=fun p hp => k _ _ (h.gpin p hp) (S.gpi p hp).2
 size:=h.size
theorem Here.slept (hz:∀ b ∈ g.Z,g.lo ≤ b) {sw s:Shared} {Hw H:Hp} {σ:L2.St} {own:List Addr} {gown:List Nat} (h:Here g gi F sw Hw pins gp σ H s):Slept g.P g.w g.base g.outer g.lo F g.Z own gown s s :=
 ⟨h.inv.bare,h.inv.bk,h.inv.env0.funs.2.2,fun _ _ _ e => e,fun _ _ _ e => e,h.ok.cov.hok h.inv.hok,fun b hb => by
  obtain ⟨o,e⟩:=h.zex b hb
  obtain ⟨e2,_,q2,q3,nc⟩:=h.inv.pin (b,o) (List.mem_append_right _ (List.mem_append_left _ (mem_pinsAt hb e)))
  exact ⟨o,e2,nc,q3,hz b hb⟩⟩
theorem tri_plain {t:TS} (S:Stat g gi a F pins gp) (h:∀ sw Hw,PS (g.X sw Hw) st t) (ht:∀ i σ H,pre i σ H → OkH g F H → t { nx:=fun σ' H' => OkH g F H' ∧ post i σ' H',rt:=fun _ _ => False,bk:=fun _ _ => False,ct:=fun _ _ => False } σ H):Tri g gi a F vs0 pins gp st pre post:=by
 refine ⟨fun c fs K J gd lv fr k n s₀ s Hw σ H i hr hn hp => ?_⟩
 refine seg_wrap ?_
 rw [fr.over]
 refine wpAny_mono (ps_held (X:=g.X s₀ Hw) (E:=fun _ _ => False) (h s₀ Hw) hr.inv (ht i σ H hp hr.ok)) (fun f s' ⟨kg,q⟩ => ?_) fun _ _ z => z.elim
 cases f with
 | next => obtain ⟨σ',H',I',ok',po⟩:=q; exact k n s₀ s' Hw σ' H' i (hr.next S kg I' ok') hn po
 | brk => obtain ⟨_,_,_,z⟩:=q; exact z.elim
 | cont => obtain ⟨_,_,_,z⟩:=q; exact z.elim
 | ret u => obtain ⟨_,_,_,_,_,z⟩:=q; exact z.elim
theorem tri_yield {e:Expr} {yp pos:Pos} {te:TE} (S:Stat g gi a F pins gp) (he:∀ sw Hw,PE (g.X sw Hw) e te) (hlt:∀ i σ H,pre i σ H → i < vs0.length) (ht:∀ i σ H,pre i σ H → OkH g F H → te σ H fun x H1 => OkH g F H1 ∧ (∀ v,RelV x v → vs0[i]? = some v) ∧ post (i + 1) σ H1)
  (hco:g.env.scope.isCoroutine = false:=by rfl) (hi:interactive g.env = false:=by rfl):Tri g gi a F vs0 pins gp (.Expr (.Yield (some e) yp) pos) pre post:=by
 refine ⟨fun c fs K J gd lv fr k n s₀ s Hw σ H i hr hn hp => ?_⟩
 have hl:=hlt i σ H hp
 obtain ⟨n,rfl⟩:∃ m,n = m + 1:=⟨n - 1,by omega⟩
 refine seg_Expr_Yield fr.split fr.gd fr.guard ?_ hco hi
 rw [fr.over]
 refine wpAny_mono (pe_held (X:=g.X s₀ Hw) (E:=fun _ _ => False) (he s₀ Hw) hr.inv (ht i σ H hp hr.ok)) (fun v s' ⟨kg,x,H1,I1,rv,ok1,hv,po⟩ => ?_) fun _ _ z => z.elim
 have h1:=hr.next S kg I1 ok1
 intro kap hk
 obtain ⟨own,gown,ha,oo,nf,wk⟩:=h1.sleep S
 refine ⟨own,gown,i,by omega,hv v rv,ha,oo,nf,h1.isGen S,h1.running,h1.turned S,h1.slept S.zlo,fun s2 z => hk .none s2 ?_⟩
 exact k n s2 s2 H1 σ H1 (i + 1) (wk s2 z) (by omega) po
theorem tris_nil:Tris g gi a F vs0 pins gp [] post post:=⟨fun c fs K J gd lv fr k n s₀ s Hw σ H i hr hn hp => seg_execs_nil (k n s₀ s Hw σ H i hr hn hp)⟩
theorem tris_cons (x:Tri g gi a F vs0 pins gp st pre mid) (y:Tris g gi a F vs0 pins gp rest mid post):Tris g gi a F vs0 pins gp (st :: rest) pre post:=by
 refine ⟨fun c fs K J gd lv fr k n s₀ s Hw σ H i hr hn hp => ?_⟩
 refine seg_execs_cons (x.run c fs _ J gd lv fr ?_ n s₀ s Hw σ H i hr hn hp)
 exact fun n s₀ s Hw σ H i hr hn hp => y.run c fs K J gd lv fr k n s₀ s Hw σ H i hr hn hp
theorem tri_if {test:Expr} {t:TT} {pos:Pos} (S:Stat g gi a F pins gp) (h:∀ sw Hw,PT (g.X sw Hw) test t) (ht:∀ i σ H,pre i σ H → OkH g F H → t σ H fun b H1 => OkH g F H1 ∧ if b = true then preT i σ H1 else preF i σ H1)
  (x:Tris g gi a F vs0 pins gp body preT post) (y:Tris g gi a F vs0 pins gp orelse preF post):Tri g gi a F vs0 pins gp (.If test body orelse pos) pre post:=by
 refine ⟨fun c fs K J gd lv fr k n s₀ s Hw σ H i hr hn hp => ?_⟩
 rw [exec_If]
 refine seg_bind_wrap (wpAny_standAt ?_)
 refine seg_bind_wrap ?_
 rw [fr.over]
 refine wpAny_mono (pt_held (X:=g.X s₀ Hw) (E:=fun _ _ => False) (h s₀ Hw) hr.inv (ht i σ H hp hr.ok)) (fun b s' ⟨kg,H1,I1,ok1,q⟩ => ?_) fun _ _ z => z.elim
 have h1:=hr.next S kg I1 ok1
 cases b with
 | true => rw [if_pos rfl] at q ⊢; exact x.run c fs K J gd lv fr k n s₀ s' Hw σ H1 i h1 hn q
 | false => rw [if_neg Bool.false_ne_true] at q ⊢; exact y.run c fs K J gd lv fr k n s₀ s' Hw σ H1 i h1 hn q
end
end
section
theorem wpAny_sim {α:Type} {M:Model} {A:Around} {t:Sem α} {Q:α → Shared → Prop} {E:Value → Shared → Prop} {G:Nat → Option GenState} {x s:Shared} (S:Sim G x s) (h:wpAny M A t Q E s) :
  wpAny M A t (fun a x' => ∃ s',Sim G x' s' ∧ Q a s') (fun e x' => ∃ s',Sim G x' s' ∧ E e s') x:=fun Γ p hΓ => wp_sim M Γ G t _ _ p s x S (h Γ p hΓ)
section
variable {g:GFr} {gi:Nat} {a:Addr} {F:Hp} {vs0:List Value} {pins:List (Addr × Obj)} {gp:List (Nat × GenState)} {body:List Stmt} {pre post:PrS}
theorem fr8_loop {c c':Code} {fs:List Frame} {gd:Bool → Bool} {k:Result → Sem PySem.Fin} {l kp:List Value} {p:Pos} (fr:Fr8 g c fs gd) (hw:c'.weight = 0) (hu:c'.cUnits = 0):Fr8 g c' (.ret k none (gd false) l c p kp :: fs) id where
 over:=(over_loop hw hu).trans fr.over
 split:=by
  show (splitAtGen fs).map _ = none
  rw [fr.split]; rfl
 guard:=by
  show (gd false || fs.any Frame.guarded) = false
  rw [fr.gd,fr.guard]; rfl
 gd:=rfl
theorem Stat.pinned (S:Stat g gi a F pins gp) {more:List (Addr × Obj)} (h:∀ p ∈ more,g.lo ≤ p.1 ∧ p.1 ∉ g.Z):Stat g gi a F (pins ++ more) gp:=by
 obtain ⟨go,nm,qn,hm,r⟩:=S.ga
 exact ⟨S.ok,S.flo,fun p hp => (List.mem_append.mp hp).elim (S.pn p) fun q => (h p q).1,⟨go,nm,qn,List.mem_append_left _ hm,r⟩,S.gpi,fun p hp => (List.mem_append.mp hp).elim (S.pz p) fun q => (h p q).2,S.zlo⟩
theorem Here.pinned {sw s:Shared} {Hw H:Hp} {σ:L2.St} {fp:List Addr} (h:Here g gi F sw Hw pins gp σ H s) (hf:∀ b ∈ fp,FpOk (g.X sw Hw) (pinsAt g.Z sw.heap ++ pins) H b) (ho:∀ b ∈ fp,∃ o,s.heap.get? b = some o ∧ ∀ v,o.data ≠ .cell v):Here g gi F sw Hw (pins ++ pinsAt fp s.heap) gp σ H s :=
 ⟨by have q:=h.inv.pinned hf ho; rwa [List.append_assoc] at q,h.zex,h.kb,h.run,h.ok,h.hw,h.gpin,h.size⟩
theorem Here.unpinned {sw s:Shared} {Hw H:Hp} {σ:L2.St} {more:List (Addr × Obj)} (h:Here g gi F sw Hw (pins ++ more) gp σ H s):Here g gi F sw Hw pins gp σ H s :=
 ⟨by have q:=h.inv; rw [← List.append_assoc] at q; exact q.unpinned,h.zex,h.kb,h.run,h.ok,h.hw,h.gpin,h.size⟩
theorem fp_here {sw s:Shared} {Hw H:Hp} {σ:L2.St} {b:Addr} (h:Here g gi F sw Hw pins gp σ H s) (ok:g.Ok) (hb:g.lo < b) (hn:H b = none) (hp:∀ p ∈ pins,p.1 ≠ b) (hz:b ∉ g.Z):FpOk (g.X sw Hw) (pinsAt g.Z sw.heap ++ pins) H b:=by
 refine ⟨hn,Nat.ne_of_gt hb,fun z => absurd (Nat.lt_trans (ok.fl b z) hb) (Nat.lt_irrefl _),.inr ?_,fun x c e => ?_,fun p hp' => ?_⟩
 ·have:(cutH g.lo sw.heap).objs.size ≤ g.lo:=by simp [cutH]; omega
  exact Nat.le_trans this (Nat.le_of_lt hb)
 ·have e':g.env.cells.lookup x = some c:=e
  rw [ok.nocell] at e'; cases e'
 ·rcases List.mem_append.mp (show p ∈ pinsAt g.Z sw.heap ++ pins by simpa using hp') with q | q
  ·exact fun e => hz (by rw [← e]; exact (of_pinsAt q).1)
  ·exact hp p q
theorem tri_for {tg iter:Expr} {wi:TI} {gt:TG} {pos:Pos} (S:Stat g gi a F pins gp) (hi:∀ sw Hw,PI (g.X sw Hw) tg iter wi) (hg:∀ sw Hw,PG (g.X sw Hw) tg gt) (nL:Nat) (W B:Nat → PrS)
  (ht:∀ i σ H,pre i σ H → OkH g F H → wi σ H fun J H1 => OkH g F H1 ∧ W 0 i σ H1 ∧ ∀ k i σ H,W k i σ H → OkH g F H → (J.stop k H ∧ post i σ H) ∨ (k < nL ∧ J.go k H ∧ ∀ x H',J.yld k H x H' → OkH g F H' ∧ gt x σ H' fun σ2 H2 => OkH g F H2 ∧ B k i σ2 H2))
  (hb:∀ k pins',Stat g gi a F pins' gp → Tris g gi a F vs0 pins' gp body (B k) (W (k + 1))) (hs:∀ x,foldedSetIterable iter g.env x = pure x:=by intro _; rfl):Tri g gi a F vs0 pins gp (.For tg iter body [] pos) pre post:=by
 refine ⟨fun c fs K J gd lv fr kont n s₀ s Hw σ H i hr hn hp => ?_⟩
 refine seg_For hs ?_
 rw [fr.over]
 have ev:=(hi s₀ Hw).run (pinsAt g.Z s₀.heap ++ pins) (hidS s) σ H _ (inv_hid hr.inv) (ht i σ H hp hr.ok)
 refine wpAny_mono (wpAny_sim (sim_hid s) ev) (fun v s1 ⟨s1',S1,h1⟩ => ?_) fun _ _ ⟨_,_,z⟩ => z.elim
 refine wpAny_mono (wpAny_sim S1 h1) (fun itv s2 ⟨s2',S2,h2⟩ => ?_) fun _ _ ⟨_,_,z⟩ => z.elim
 obtain ⟨it,fp,tn,Jt,H2,rfl,I2',T,st2',f2,ok2,w2,turn⟩:=h2
 have I2:Inv (g.X s₀ Hw) (pinsAt g.Z s₀.heap ++ pins) σ H2 s2:=inv_but I2' S2.but
 have st2:tn 0 s2.heap:=by rw [← S2.but.heap]; exact st2'
 have r2:=hr.next S S2.kept I2 ok2
 intro p
 have frl:Fr8 g (.forLoop tg (.ref it) body [] g.env) (.ret (backOf g.env K J gd lv) none (gd false) (lv []) c p [] :: fs) id:=fr8_loop fr rfl rfl
 have flo:∀ b ∈ fp,g.lo < b:=fun b hb => by
  obtain ⟨_,h1,_,h2,_,_⟩:=f2 b hb
  rcases h2 with h2 | h2
  ·exact absurd (show b ∈ ([]:List Addr) from h2) (by simp)
  ·have z:=hr.size
   have e:(cutH g.lo s₀.heap).objs.size = g.lo:=cut_size z
   have h2':(cutH g.lo s₀.heap).objs.size ≤ b:=h2
   rw [e] at h2'
   exact Nat.lt_of_le_of_ne h2' (Ne.symm h1)
 have nop:∀ b ∈ fp,∀ p ∈ pins,p.1 ≠ b:=fun b hb p hp => (f2 b hb).2.2.2.2.2 p (List.mem_append_right _ (List.mem_append_right _ hp))
 have noz:∀ b ∈ fp,b ∉ g.Z:=fun b hb hz => by
  obtain ⟨o,e⟩:=hr.zex b hz
  exact (f2 b hb).2.2.2.2.2 (b,o) (List.mem_append_right _ (List.mem_append_left _ (mem_pinsAt hz e))) rfl
 have loop:∀ (m k n:Nat) (s₀ s:Shared) (Hw:Hp) (σ:L2.St) (H:Hp) (i:Nat),nL - k = m → Here g gi F s₀ Hw pins gp σ H s → i + n = vs0.length → W k i σ H → tn k s.heap → (∀ b ∈ fp,H b = none) →
   SG g gi a F vs0 n s₀ (.forLoop tg (.ref it) body [] g.env) ((model g.P g.w).den (.forLoop tg (.ref it) body [] g.env)) (.ret (backOf g.env K J gd lv) none (gd false) (lv []) c p [] :: fs) s:=by
  intro m
  induction m using Nat.strongRecOn with
  | ind m ih =>
   intro k n s₀ s Hw σ H i hm hr hn wk st hfn
   have fpo:∀ b ∈ fp,FpOk (g.X s₀ Hw) (pinsAt g.Z s₀.heap ++ pins) H b:=fun b hb => fp_here hr S.ok (flo b hb) (hfn b hb) (nop b hb) (noz b hb)
   refine seg_forTurn ?_
   rw [frl.over]
   rcases turn k i σ H wk hr.ok with ⟨stop,po⟩ | ⟨klt,go,step⟩
   ·have dn:=T.done (g.X s₀ Hw) rfl rfl rfl rfl k (pinsAt g.Z s₀.heap ++ pins) (hidS s) σ H (fun _ _ => False) (inv_hid hr.inv) fpo st stop
    refine wpAny_mono (wpAny_sim (sim_hid s) dn) (fun r s3 ⟨s3',S3,hr0,I3⟩ => ?_) fun _ _ ⟨_,_,z⟩ => z.elim
    subst hr0
    exact seg_leaf (.ok .next) (kont n s₀ s3 Hw σ H i (hr.next S S3.kept (inv_but I3 S3.but) hr.ok) hn po)
   ·have it':=T.item (g.X s₀ Hw) rfl rfl rfl rfl k (pinsAt g.Z s₀.heap ++ pins) (hidS s) σ H (fun _ _ => False) (inv_hid hr.inv) fpo st go
    refine wpAny_mono (wpAny_sim (sim_hid s) it') (fun r s3 ⟨s3',S3,u,hr0,h3⟩ => ?_) fun _ _ ⟨_,_,z⟩ => z.elim
    subst hr0
    refine wpAny_mono (wpAny_sim S3 h3) (fun _ s4 ⟨s4',S4,x,H',I4',rx,yl,st4',fr4⟩ => ?_) fun _ _ ⟨_,_,z⟩ => z.elim
    have I4:Inv (g.X s₀ Hw) (pinsAt g.Z s₀.heap ++ pins) σ H' s4:=inv_but I4' S4.but
    have st4:tn (k + 1) s4.heap:=by rw [← S4.but.heap]; exact st4'
    obtain ⟨ok4,q4⟩:=step x H' yl
    have r4:=hr.next S S4.kept I4 ok4
    have fpo4:∀ b ∈ fp,FpOk (g.X s₀ Hw) (pinsAt g.Z s₀.heap ++ pins) H' b:=fun b hb => fp_here r4 S.ok (flo b hb) (fr4 b hb) (nop b hb) (noz b hb)
    have r4':=r4.pinned fpo4 (T.obj _ _ st4)
    have S':Stat g gi a F (pins ++ pinsAt fp s4.heap) gp:=S.pinned fun q hq => by
     obtain ⟨hb,_⟩:=of_pinsAt hq
     exact ⟨Nat.le_of_lt (flo _ hb),noz _ hb⟩
    refine wpAny_mono (pg_held (X:=g.X s₀ Hw) (E:=fun _ _ => False) (hg s₀ Hw) r4'.inv rx q4) (fun _ s5 ⟨k5,σ5,H5,I5,ok5,b5⟩ => ?_) fun _ _ z => z.elim
    have r5:=r4'.next S' k5 I5 ok5
    refine (hb k _ S').run _ _ _ _ id id frl (fun n' s₀' s' Hw' σ' H' i' hr' hn' w' => ?_) n s₀ s5 Hw σ5 H5 i r5 hn b5
    refine seg_again rfl (ih (nL - (k + 1)) (by omega) (k + 1) n' s₀' s' Hw' σ' H' i' rfl hr'.unpinned hn' w' ?_ fun b hb => ?_)
    ·exact T.keep _ _ _ st4 fun b hb o e => (hr'.inv.pin (b,o) (List.mem_append_right _ (List.mem_append_right _ (List.mem_append_right _ (mem_pinsAt hb e))))).1
    ·obtain ⟨o,e,_⟩:=T.obj _ _ st4 b hb
     exact (hr'.inv.pin (b,o) (List.mem_append_right _ (List.mem_append_right _ (List.mem_append_right _ (mem_pinsAt hb e))))).2.1
 exact loop (nL - 0) 0 n s₀ s2 Hw σ H2 i rfl r2 hn w2 st2 fun b hb => (f2 b hb).1
end
end
section
theorem genP_sim {c:GC} {G:Nat → Option GenState} {x s:Shared} {b:Bool} {vs:List Value} (S:Sim G x s) (hG:∀ j,c.gi ≤ j → G j = none) (h:GenP c b vs s):GenP c b vs x:=by
 have key:∀ {own:List Addr} {gown:List Nat} {s2:Shared},OwnOk c.lo c.gi c.Z own gown s → Slept c.P c.w c.base c.outer c.lo c.F c.Z own gown x s2 → Slept c.P c.w c.base c.outer c.lo c.F c.Z own gown s s2:=fun oo z =>
  ⟨z.bare,z.kb,z.ff,fun b o hb e => z.own b o hb (by rw [← S.heap]; exact e),fun j y hj e => z.gens j y hj (by rw [← S.rest j (hG j (oo.2.2 j hj))]; exact e),z.fz,z.zz⟩
 have own':∀ {own:List Addr} {gown:List Nat},OwnOk c.lo c.gi c.Z own gown s → OwnOk c.lo c.gi c.Z own gown x:=fun oo => ⟨fun b hb => by
  obtain ⟨h1,hz,o,e,h2⟩:=oo.1 b hb
  exact ⟨h1,hz,o,by rw [← S.heap]; exact e,h2⟩,oo.2⟩
 have nf':∀ {own:List Addr} {gown:List Nat},OwnOk c.lo c.gi c.Z own gown s → NF gown s → NF gown x:=fun oo nf j y hj e => nf j y hj (by rw [S.rest j (hG j (oo.2.2 j hj))]; exact e)
 cases vs with
 | nil => obtain ⟨own,gown,h1,h2,h3,h4⟩:=h; exact ⟨own,gown,h1,own' h2,fun hb => nf' h2 (h3 hb),fun s2 z => h4 s2 (key h2 z)⟩
 | cons v vs => obtain ⟨own,gown,h1,h2,h3,h4⟩:=h; exact ⟨own,gown,h1,own' h2,fun hb => nf' h2 (h3 hb),fun s2 z => h4 s2 (key h2 z)⟩
def gpAt (gown:List Nat) (s:Shared):List (Nat × GenState):=gown.filterMap fun j => (s.gens[j]?).map fun y => (j,y)
theorem of_gpAt {gown:List Nat} {s:Shared} {p:Nat × GenState} (h:p ∈ gpAt gown s):p.1 ∈ gown ∧ s.gens[p.1]? = some p.2:=by
 obtain ⟨j,hj,e⟩:=List.mem_filterMap.mp h
 cases q:s.gens[j]? with
 | none => rw [q] at e; cases e
 | some y => rw [q] at e; obtain rfl:=Option.some.inj e; exact ⟨hj,q⟩
theorem mem_gpAt {gown:List Nat} {s:Shared} {j:Nat} {y:GenState} (hj:j ∈ gown) (e:s.gens[j]? = some y):(j,y) ∈ gpAt gown s:=List.mem_filterMap.mpr ⟨j,hj,by rw [e]; rfl⟩
section
variable {g:GFr} {gi:Nat} {a:Addr} {F:Hp} {vs0:List Value} {pins:List (Addr × Obj)} {gp:List (Nat × GenState)} {body:List Stmt} {pre post:PrS} {kL:Nat}
theorem Stat.gpinned (S:Stat g gi a F pins gp) {more:List (Nat × GenState)} (h:∀ p ∈ more,gi < p.1 ∧ isFresh p.2 = false):Stat g gi a F pins (gp ++ more) :=
 ⟨S.ok,S.flo,S.pn,S.ga,fun p hp => (List.mem_append.mp hp).elim (S.gpi p) (h p),S.pz,S.zlo⟩
theorem tri_forG {tg iter:Expr} {tgi:TGi} {gt:TG} {pos:Pos} (S:Stat g gi a F pins gp) (hi:∀ sw Hw,PGi (g.X sw Hw) kL iter tgi) (hroom:Room kL (g.A.deeper g.env)) (hg:∀ sw Hw,PG (g.X sw Hw) tg gt)
  (ht:∀ i σ H,pre i σ H → OkH g F H → tgi σ H fun L H1 Fi lo => OkH g F H1 ∧ ∃ W B:Nat → PrS,W 0 i σ H1 ∧
   (∀ k i σ H,W k i σ H → OkH g F H → Cov Fi H ∧ (∀ b u,H b = some u → b < lo) ∧ (k = L.length → post i σ H) ∧ ∀ x,L[k]? = some x → gt x σ H fun σ2 H2 => OkH g F H2 ∧ B k i σ2 H2) ∧
   ∀ k pins' gp',Stat g gi a F pins' gp' → Tris g gi a F vs0 pins' gp' body (B k) (W (k + 1)))
  (hs:∀ x,foldedSetIterable iter g.env x = pure x:=by intro _; rfl):Tri g gi a F vs0 pins gp (.For tg iter body [] pos) pre post:=by
 refine ⟨fun c fs K J gd lv fr kont n s₀ s Hw σ H i hr hn hp => ?_⟩
 refine seg_For hs ?_
 rw [fr.over]
 have ev:=(hi s₀ Hw).run (pinsAt g.Z s₀.heap ++ pins) (hidS s) σ H _ (inv_hid hr.inv) (ht i σ H hp hr.ok)
 refine wpAny_mono (wpAny_sim (sim_hid s) ev) (fun u s1 ⟨s1',S1,h1⟩ => ?_) fun _ _ ⟨_,_,z⟩ => z.elim
 obtain ⟨⟨P,w,base,A,outer,lo,gj,b,Fi,Zc⟩,vs,L,H1,rfl,eP,ew,eb,eo,hv,I1',hgen',far,gpZ,hsz,cov1,ok1,W,B,w0,wst,hb⟩:=h1
 have gp1':=gpZ (g.A.deeper g.env) [] (Around.frames_deeper S.ok.fr) hroom (fun b hb => by simp at hb)
 obtain rfl:P = g.P:=eP
 obtain rfl:w = g.w:=ew
 obtain rfl:base = g.base:=eb
 obtain rfl:outer = g.env :: g.outer:=eo
 have hsz':s.gens.size ≤ gj:=by simpa [hidS] using hsz
 have I1:Inv (g.X s₀ Hw) (pinsAt g.Z s₀.heap ++ pins) σ H1 s1:=inv_but I1' S1.but
 have gp1:=genP_sim S1 (fun j hj => by
  have hj':gj ≤ j:=hj
  have:s.gens[j]? = none:=by simp; omega
  simp [held,this]) gp1'
 have hgen:s1.heap.IsGen b gj:=by rw [← S1.heap]; exact hgen'
 have r1:=hr.next S S1.kept I1 ok1
 have hgi:gi < gj:=by
  have:=(Array.getElem?_eq_some_iff.mp hr.running).1
  omega
 have hgp:∀ p ∈ gp,p.1 < gj:=fun p hp => by
  have:=(Array.getElem?_eq_some_iff.mp (hr.gpin p hp)).1
  omega
 refine wpAny_pyIter_gen hgen ?_
 intro p
 have frl:Fr8 g (.forLoop tg (.ref b) body [] g.env) (.ret (backOf g.env K J gd lv) none (gd false) (lv []) c p [] :: fs) id:=fr8_loop fr rfl rfl
 have lolo:g.lo < lo:=far.l
 have zlt:∀ d ∈ g.Z,d < lo:=fun d hd => by
  obtain ⟨o,e⟩:=hr.zex d hd
  exact far.p (d,o) (List.mem_append_right _ (List.mem_append_left _ (mem_pinsAt hd e)))
 have farX:∀ {sw:Shared} {Hw H:Hp},(∀ b u,H b = some u → b < lo) → Far (g.X sw Hw) (pinsAt g.Z sw.heap ++ pins) H lo:=fun {sw Hw H} h => ⟨h,fun p hp => by
  rcases List.mem_append.mp (show p ∈ pinsAt g.Z sw.heap ++ pins by simpa using hp) with q | q
  ·exact zlt _ (of_pinsAt q).1
  ·exact far.p p (List.mem_append_right _ (List.mem_append_right _ q)),far.l,far.c,by
  show (cutH g.lo sw.heap).objs.size ≤ lo
  have:(cutH g.lo sw.heap).objs.size ≤ g.lo:=by simp [cutH]; omega
  exact Nat.le_trans this (Nat.le_of_lt lolo)⟩
 have hlen:vs.length = L.length:=hv.length.symm
 have w00:Wake ⟨g.P,g.w,g.base,g.A.deeper g.env,g.env :: g.outer,lo,gj,b,Fi,[]⟩ vs s1:=by
  obtain ⟨own,gown,_,_,_,hw⟩:=genP_wake gp1
  exact hw s1 (slept_of I1 cov1 (fun _ _ _ e => e) fun _ _ _ e => e)
 have loop:∀ (m k n:Nat) (s₀ s:Shared) (Hw:Hp) (σ:L2.St) (H:Hp) (i:Nat),L.length - k = m → k ≤ L.length → Here g gi F s₀ Hw pins gp σ H s → i + n = vs0.length → W k i σ H → Wake ⟨g.P,g.w,g.base,g.A.deeper g.env,g.env :: g.outer,lo,gj,b,Fi,[]⟩ (vs.drop k) s →
   SG g gi a F vs0 n s₀ (.forLoop tg (.ref b) body [] g.env) ((model g.P g.w).den (.forLoop tg (.ref b) body [] g.env)) (.ret (backOf g.env K J gd lv) none (gd false) (lv []) c p [] :: fs) s:=by
  intro m
  induction m using Nat.strongRecOn with
  | ind m ih =>
   intro k n s₀ s Hw σ H i hm hk hr hn wk wake
   obtain ⟨covk,lowk,pok,stepk⟩:=wst k i σ H wk hr.ok
   refine seg_forTurn ?_
   rw [frl.over]
   have wake':wpAny (model g.P g.w) (g.A.deeper g.env) (pyNext (.ref b)) (Post ⟨g.P,g.w,g.base,g.A.deeper g.env,g.env :: g.outer,lo,gj,b,Fi,[]⟩ s (vs.drop k)) (fun _ _ => False) s:=wake
   refine wpAny_mono wake' (fun r s3 po => ?_) fun _ _ z => z.elim
   have here:Turned g.P g.w Fi lo gj (frs (g.env :: g.outer)) [] s s3 → Here g gi F s₀ Hw pins gp σ H s3:=fun T =>
    ⟨inv_turned (X:=g.X s₀ Hw) hr.inv T (farX lowk) covk,hr.zex,fun j y hj e f => T.gens j y (Nat.lt_of_le_of_lt hj hgi) (hr.kb j y hj e f) f,hr.run,hr.ok,hr.hw,fun p hp => T.gens _ _ (hgp p hp) (hr.gpin p hp) (S.gpi p hp).2,hr.size⟩
   cases hd:vs.drop k with
   | nil =>
    rw [hd] at po
    obtain ⟨rfl,T⟩:=po
    have e:k = L.length:=by
     have:=congrArg List.length hd
     simp at this
     omega
    exact seg_leaf (.ok .next) (kont n s₀ s3 Hw σ H i (here T) hn (pok e))
   | cons v vs' =>
    rw [hd] at po
    obtain ⟨rfl,T,ig,gp3⟩:=po
    have hlt:k < vs.length:=by
     rcases Nat.lt_or_ge k vs.length with q | q
     ·exact q
     ·rw [List.drop_eq_nil_of_le q] at hd; cases hd
    have hvi:vs[k]? = some v:=by
     have:=List.getElem?_drop (xs:=vs) (i:=k) (j:=0)
     rw [hd] at this
     simpa using this.symm
    have hd1:vs.drop (k + 1) = vs':=by
     have:=List.drop_drop (l:=vs) (i:=1) (j:=k)
     rw [hd] at this
     simp at this
     rw [← this]
    have hLk:k < L.length:=by omega
    obtain ⟨v',hv',rv⟩:=hv.get (List.getElem?_eq_getElem hLk)
    rw [hvi] at hv'
    obtain rfl:=Option.some.inj hv'
    have r3:=here T
    refine gen_go ig ?_
    obtain ⟨own,gown,ha,⟨oo,_,og⟩,nf,hw⟩:=genP_wake gp3
    have nf:=nf rfl
    have fpo:∀ d ∈ own,FpOk (g.X s₀ Hw) (pinsAt g.Z s₀.heap ++ pins) H d:=fun d hd => by
     have h1:lo ≤ d:=(oo d hd).1
     refine fp_here r3 S.ok (Nat.lt_of_lt_of_le lolo h1) ?_ (fun p hp => Nat.ne_of_lt (Nat.lt_of_lt_of_le (far.p p (List.mem_append_right _ (List.mem_append_right _ hp))) h1)) fun z => absurd (Nat.lt_of_lt_of_le (zlt _ z) h1) (Nat.lt_irrefl _)
     cases q:H d with
     | none => rfl
     | some u => exact absurd (Nat.lt_of_lt_of_le (lowk d u q) h1) (Nat.lt_irrefl _)
    have r3':=r3.pinned fpo fun d hd => (oo d hd).2.2
    have S':Stat g gi a F (pins ++ pinsAt own s3.heap) (gp ++ gpAt gown s3):=(S.pinned fun q hq => by
     obtain ⟨hb,_⟩:=of_pinsAt hq
     exact ⟨Nat.le_of_lt (Nat.lt_of_lt_of_le lolo (oo _ hb).1),fun z => absurd (Nat.lt_of_lt_of_le (zlt _ z) (oo _ hb).1) (Nat.lt_irrefl _)⟩).gpinned fun q hq => by
     obtain ⟨hj,e⟩:=of_gpAt hq
     exact ⟨Nat.lt_of_lt_of_le hgi (og _ hj),nf _ _ hj e⟩
    have r3'':Here g gi F s₀ Hw (pins ++ pinsAt own s3.heap) (gp ++ gpAt gown s3) σ H s3:=⟨r3'.inv,r3'.zex,r3'.kb,r3'.run,r3'.ok,r3'.hw,fun q hq => (List.mem_append.mp hq).elim (r3'.gpin q) fun hq => (of_gpAt hq).2,r3'.size⟩
    refine wpAny_mono (pg_held (X:=g.X s₀ Hw) (E:=fun _ _ => False) (hg s₀ Hw) r3''.inv rv (stepk _ (List.getElem?_eq_getElem hLk))) (fun _ s5 ⟨k5,σ5,H5,I5,ok5,b5⟩ => ?_) fun _ _ z => z.elim
    have r5:=r3''.next S' k5 I5 ok5
    refine (hb k _ _ S').run _ _ _ _ id id frl (fun n' s₀' s' Hw' σ' H' i' hr' hn' w' => ?_) n s₀ s5 Hw σ5 H5 i r5 hn b5
    have hu:=hr'.unpinned
    have hr0:Here g gi F s₀' Hw' pins gp σ' H' s':=⟨hu.inv,hu.zex,hu.kb,hu.run,hu.ok,hu.hw,fun q hq => hu.gpin q (List.mem_append_left _ hq),hu.size⟩
    refine seg_again rfl (ih (L.length - (k + 1)) (by omega) (k + 1) n' s₀' s' Hw' σ' H' i' rfl hLk hr0 hn' w' ?_)
    rw [hd1]
    exact hw s' (slept_of (X:=g.X s₀' Hw') hr'.inv (wst _ _ _ _ w' hr'.ok).1 (fun d o hd e => (hr'.inv.pin (d,o) (List.mem_append_right _ (List.mem_append_right _ (List.mem_append_right _ (mem_pinsAt hd e))))).1) fun j y hj e => hr'.gpin (j,y) (List.mem_append_right _ (mem_gpAt hj e)))
 exact loop (L.length - 0) 0 n s₀ s1 Hw σ H1 i rfl (Nat.zero_le _) r1 hn w0 w00
end
end
end GG
namespace GG
open PySem PySem.Spec PyProof.Rows L2 GenW
open Sem (wp)
section
def GoesN (M:Model) (A:Around) (R:GenEnd) (Y:Protocol) (gs:GenState):Nat → Resume → Shared → Prop
 | 0 => fun _ _ => False
 | m + 1 => fun r s => gs.Goes M A R Y m r s
theorem wpAny_resumeN {M:Model} {A:Around} {R:GenEnd} {Y:Protocol} {n:Nat} {E:Value → Shared → Prop} {s:Shared} {g:Nat} {gs:GenState}
  {r:Resume} {l:List Value} {α:Type} {k:GenResult → Sem α} {Q:α → Shared → Prop} (hg:s.gens[g]? = some gs)
  (hgo:gs.Goes M A R Y n r (s.setGen g .running))
  (hR:∀ x s₁,R n (s.setGen g .running) x s₁ → wpAny M A (k (End.ret x).result) Q E (s₁.setGen g .finished))
  (hY:∀ v s₁ gs',gs'.bare = true → isFresh gs' = false → Y (n - 1) (s.setGen g .running) v s₁ (fun r' s'' => GoesN M A R Y gs' n r' s'') →
   wpAny M A (k (.yielded v)) Q E (s₁.setGen g gs')) :
  wpAny M A (.resume g r l k) Q E s:=by
 intro Γ p hΓ
 rw [Sem.wp_resume]
 have hB:∀ c,(Γ.wake c p).Woken A:=fun c => hΓ.wake c p
 have fin:∀ e₁ s₁,SegEnd R Y n (Seg.next M A R Y n) (s.setGen g .running) e₁ s₁ →
   wp M Γ (k e₁.result) (fun a _ s' => Q a s') (fun e _ s' => E e s') p (s₁.setGen g e₁.genState):=by
  intro e₁ s₁ he
  cases e₁ with
  | ret x => exact hR x s₁ he Γ p hΓ
  | susp v g₀ l₀ k₀ c₀ p₀ fs₀ =>
   refine hY v s₁ _ (End.bare_of_quiet he.1) rfl ?_ Γ p hΓ
   cases n with
   | zero => exact he.2
   | succ m => exact he.2
 have hqt:∀ e₁ s₁,SegEnd R Y n (Seg.next M A R Y n) (s.setGen g .running) e₁ s₁ → e₁.quiet = true:=by
  intro e₁ s₁ he
  cases e₁ with
  | ret x => rfl
  | susp v g₀ l₀ k₀ c₀ p₀ fs₀ => exact he.1
 cases gs with
 | fresh c =>
  obtain ⟨rfl,hs⟩:=hgo
  obtain ⟨e₁,s₁,hr,he⟩:=seg_iff.mp hs (Γ.wake c p) p rfl (hB c)
  exact ⟨_,_,by unfold Wakes; rw [hg]; exact ⟨e₁,s₁,hr,hqt e₁ s₁ he,rfl,rfl⟩,fin e₁ s₁ he⟩
 | suspended k₀ l₀ c₀ p₀ fs₀ cl =>
  obtain ⟨e₁,s₁,hr,he⟩:=seg_iff.mp hgo (Γ.wake c₀ p) p₀ rfl (hB c₀)
  exact ⟨_,_,by unfold Wakes; rw [hg]; exact ⟨e₁,s₁,hr,hqt e₁ s₁ he,rfl,rfl⟩,fin e₁ s₁ he⟩
 | running => exact hgo.elim
 | finished => exact hgo.elim
theorem next_genN {P:Program} {w:World} {A:Around} {E:Value → Shared → Prop} {s:Shared} {a:Addr} {g n:Nat} {gs:GenState} {Fe:Nat → Shared → Shared → Prop} {Y:Protocol} {Q:Option Value → Shared → Prop} (hh:A.handled = none)
  (hl:s.heap.NoLimit) (hroom:A.depth < recursionLimit) (hg:s.heap.IsGen a g) (hgs:s.gens[g]? = some gs)
  (hgo:gs.Goes (model P w) A.in1 (fun n s₀ r s₁ => ((r = .ok (.ret .none) ∨ r = .ok .next) ∧ Fe n s₀ s₁) ∨ ∃ e,r = .error e ∧ False) Y n (.send .none) (s.setGen g .running))
  (hY:∀ v s₁ gs',gs'.bare = true → isFresh gs' = false → Y (n - 1) (s.setGen g .running) v s₁ (fun r' s'' => GoesN (model P w) A.in1 (fun n s₀ r s₁ => ((r = .ok (.ret .none) ∨ r = .ok .next) ∧ Fe n s₀ s₁) ∨ ∃ e,r = .error e ∧ False) Y gs' n r' s'') → Q (some v) (s₁.setGen g gs'))
  (hP:∀ s₁,Fe n (s.setGen g .running) s₁ → ∀ h',(∀ b o,s₁.heap.get? b = some o → h'.get? b = some o) → Q none { s₁.setGen g .finished with heap:=h' }) :
  wpAny (model P w) A (pyNext (.ref a)) Q E s:=by
 unfold pyNext
 refine wpAny_bind (wpAny_attempt (wpAny_callSpecial?_slot (name:=Str.ofString "__next__") hg.typeIs slot_gen_next
  (wpAny_call_entry slot_gen_next hg.typeIs entry_gen_next ?_ (args_gen_next _))))
 show wpAny _ A.in1 (Builtin.Generator.genWake (.ref a) (.send .none)) _ _ s
 unfold Builtin.Generator.genWake
 refine wpAny_bind (wpAny_holding (wpAny_genNumber hg (wpAny_bind (wpAny_genState hgs ?_))))
 cases gs with
 | running => exact hgo.elim
 | finished => exact hgo.elim
 | _ =>
  refine wpAny_bind (wpAny_roomToWake hl hroom ?_)
  show wpAny _ A.in1 (.resume g (.send .none) [] _) _ _ s
  refine wpAny_resumeN hgs hgo (fun x s₁ hx => ?_) (fun v s₁ gs' hb hf hv => ?_)
  ·rcases hx with ⟨hr,hp⟩ | ⟨e,_,z⟩
   ·have hres:End.result (.ret x) = .returned .none:=by
     rcases hr with hr | hr <;> rw [hr] <;> rfl
    first | rw [hres] | simp only [hres]
    show wpAny _ A.in1 (newExc (.type "StopIteration") [] >>= _) _ _ _
    refine wpAny_bind ?_
    simp only [newExc,newTuple]
    refine wpAny_bind (wpAny_newObj_type ?_ (by size_fits))
    refine wpAny_bind (m:=firstArgMember _ _) (wpAny_of_eq (a:=Value.none) (by first | rfl | (simp only [firstArgMember]; rfl)) ?_)
    refine wpAny_newObj_type ?_ (by size_fits)
    simp only [raiseNew]
    refine wpAny_bind (wpAny_bind (wpAny_handled ?_))
    first | rw [show A.in1.handled = none from hh] | rw [hh]
    refine wpAny_throw ?_
    refine wpAny_bind (wpAny_isInstance (T := "StopIteration") (b:=true) ⟨_,Heap.get?_push_size _ rfl,rfl⟩ isSubtype_stop ?_)
    exact wpAny_pure (hP s₁ hp _ fun b o hb => Heap.get?_push_of_some _ (Heap.get?_push_of_some _ hb))
   ·exact z.elim
  ·exact wpAny_pure ⟨v,rfl,wpAny_pure (hY v s₁ gs' hb hf hv)⟩
theorem setGen_get {s:Shared} {g:Nat} {y:GenState} (j:Nat):(s.setGen g y).gens[j]? = if g = j then (if j < s.gens.size then some y else none) else s.gens[j]? := set_at j
theorem turned_end {P:Program} {w:World} {F:Hp} {lo gi:Nat} {fr Z:List Addr} {s2 s₁:Shared} {gs:GenState} {h':Heap} (hg:s2.gens[gi]? = some gs) (T:Turned P w F lo gi fr Z (s2.setGen gi .running) s₁) (k:∀ b o,s₁.heap.get? b = some o → h'.get? b = some o) :
  Turned P w F lo gi fr Z s2 { s₁.setGen gi .finished with heap:=h' } where
 os:=T.os
 bare:=fun y hy => allBare_setGen (x := .finished) T.bare rfl y hy
 gens:=fun j y hj e f => by
  have ne:gi ≠ j:=Nat.ne_of_gt hj
  show (s₁.setGen gi .finished).gens[j]? = _
  rw [setGen_get,if_neg ne]
  refine T.gens j y hj ?_ f
  rw [setGen_get,if_neg ne]; exact e
 keep:=fun b o hb hF hf e => k b o (T.keep b o hb hF hf e)
 slot:=fun b o hb hf e => by
  obtain ⟨sl,e1⟩:=T.slot b o hb hf e
  exact ⟨sl,k b _ e1⟩
 fz:=T.fz.kept k
 zk:=fun b o hb e => k b o (T.zk b o hb e)
theorem genP_seg {g:GFr} {A0:Around} {gi:Nat} {a:Addr} {F:Hp} {vs0:List Value} (hA:g.A = A0.in1) (hh:A0.handled = none) (hroom:A0.depth < recursionLimit) (lim:∀ s2:Shared,(∀ b o,g.base.get? b = some o → s2.heap.get? b = some o) → s2.heap.NoLimit) :
  ∀ (n i:Nat) (s:Shared) (gs:GenState) (own:List Addr) (gown:List Nat) (b:Bool),i + n = vs0.length → a ∈ own → OwnOk g.lo gi g.Z own gown s → (b = true → NF gown s) → s.heap.IsGen a gi → s.gens[gi]? = some gs →
   (∀ s2,Slept g.P g.w g.base g.outer g.lo F g.Z own gown s s2 → gs.Goes (model g.P g.w) g.A (Rp g gi F) (Yp g gi a F vs0) n (.send .none) (s2.setGen gi .running)) →
   GenP ⟨g.P,g.w,g.base,A0,g.outer,g.lo,gi,a,F,g.Z⟩ b (vs0.drop i) s:=by
 intro n
 induction n with
 | zero =>
  intro i s gs own gown b hi ha oo nf ig hgs hgo
  have hd:vs0.drop i = []:=List.drop_eq_nil_of_le (by omega)
  rw [hd]
  refine ⟨own,gown,ha,oo,nf,fun s2 z => ?_⟩
  have ig2:s2.heap.IsGen a gi:=by
   obtain ⟨o,nm,qn,ho,r⟩:=ig
   exact ⟨o,nm,qn,z.own a o ha ho,r⟩
  have gs2:=z.gens gi gs oo.2.1 hgs
  have go2:=hgo s2 z
  rw [hA] at go2
  refine next_genN (Fe:=fun n s₀ s₁ => n = 0 ∧ Turned g.P g.w F g.lo gi (frs g.outer) g.Z s₀ s₁) hh (lim s2 z.kb) hroom ig2 gs2 go2 (fun v s₁ gs' hb hf hv => ?_) (fun s₁ hp h' hk => ?_)
  ·obtain ⟨_,_,_,_,_,_,_,_,_,_,_,sl,hk⟩:=hv
   exact (hk s₁ sl).elim
  ·obtain ⟨_,T⟩:=hp
   exact ⟨rfl,turned_end gs2 T hk⟩
 | succ n ih =>
  intro i s gs own gown b hi ha oo nf ig hgs hgo
  have hil:i < vs0.length:=by omega
  have hd:vs0.drop i = vs0[i] :: vs0.drop (i + 1):=List.drop_eq_getElem_cons hil
  rw [hd]
  refine ⟨own,gown,ha,oo,nf,fun s2 z => ?_⟩
  have ig2:s2.heap.IsGen a gi:=by
   obtain ⟨o,nm,qn,ho,r⟩:=ig
   exact ⟨o,nm,qn,z.own a o ha ho,r⟩
  have gs2:=z.gens gi gs oo.2.1 hgs
  have go2:=hgo s2 z
  rw [hA] at go2
  refine next_genN (Fe:=fun n s₀ s₁ => n = 0 ∧ Turned g.P g.w F g.lo gi (frs g.outer) g.Z s₀ s₁) hh (lim s2 z.kb) hroom ig2 gs2 go2 (fun v s₁ gs' hb hf hv => ?_) (fun s₁ hp h' hk => ?_)
  ·obtain ⟨own',gown',i',he,hv',ha',oo',nf',ig',run',T,sl,hk⟩:=hv
   have ei:i' = i:=by simp at he; omega
   subst ei
   have ev:v = vs0[i']:=by
    rw [List.getElem?_eq_getElem hil] at hv'
    exact (Option.some.inj hv').symm
   have hgl:gi < s₁.gens.size:=(Array.getElem?_eq_some_iff.mp run').1
   have oth:∀ (j:Nat) (y:GenState),gi ≠ j → ((s₁.setGen gi gs').gens[j]? = some y ↔ s₁.gens[j]? = some y):=fun j y hj => by rw [setGen_get,if_neg hj]
   refine ⟨by rw [ev],⟨T.os,fun y hy => ?_,fun j y hj e f => ?_,T.keep,T.slot,T.fz,T.zk⟩,ig',?_⟩
   ·exact allBare_setGen T.bare hb y hy
   ·have ne:gi ≠ j:=Nat.ne_of_gt hj
    rw [setGen_get,if_neg ne]
    refine T.gens j y hj ?_ f
    rw [setGen_get,if_neg ne]; exact e
   ·refine ih (i' + 1) _ gs' own' gown' true (by omega) ha' ⟨fun b hb => oo'.1 b hb,oo'.2⟩ (fun _ j y hj e => ?_) ig' (by rw [setGen_get,if_pos rfl,if_pos hgl]) (fun s3 z3 => ?_)
    ·by_cases ej:gi = j
     ·subst ej
      rw [setGen_get,if_pos rfl,if_pos hgl] at e
      obtain rfl:=Option.some.inj e
      exact hf
     ·rw [setGen_get,if_neg ej] at e
      exact nf' j y hj e
    ·have g3:=z3.gens gi gs' oo'.2.1 (by rw [setGen_get,if_pos rfl,if_pos hgl])
     have gl3:gi < s3.gens.size:=(Array.getElem?_eq_some_iff.mp g3).1
     have q:=hk (s3.setGen gi .running) ⟨fun y hy => allBare_setGen z3.bare rfl y hy,z3.kb,z3.ff,z3.own,fun j y hj e => ?_,z3.fz,z3.zz⟩
     ·rw [hA]; exact q
     ·by_cases ej:gi = j
      ·subst ej
       rw [run'] at e
       obtain rfl:=Option.some.inj e
       rw [setGen_get,if_pos rfl,if_pos gl3]
      ·rw [setGen_get,if_neg ej]
       exact z3.gens j y hj ((oth j y ej).mpr e)
  ·obtain ⟨h0,_⟩:=hp
   cases h0
end
end GG
namespace GG
open PySem PySem.Spec PyProof.Rows L2 GenW
section
theorem GFr.inv {g:GFr} (ok:g.Ok) {s2:Shared} {H:Hp} {pins':List (Addr × Obj)} {σ:L2.St} (W:g.World s2 H)
  (loc:∃ m,s2.heap.Ns g.lo m ∧ ∀ (i:Nat) (x:Str) (v:V),g.N[i]? = some x → σ[i]? = some (some v) → Vis g.scope x → ∃ u,RelV v u ∧ Look g.env s2.heap m x u)
  (free:H g.lo = none) (hok:HOk g.P g.w H s2.heap) (kp:∀ p ∈ pins',s2.heap.get? p.1 = some p.2 ∧ H p.1 = none ∧ p.1 ≠ g.lo ∧ p.1 ∉ frs g.outer ∧ ∀ v,p.2.data ≠ .cell v) (len:σ.length = g.N.length):Inv (g.X s2 H) pins' σ H s2 where
 ok:=g.okX ok W
 os:=rfl
 bare:=W.bare
 base:=by
  refine ⟨fun b o e _ _ _ => (cut_at e).2,fun b o e _ _ _ => ⟨o.slots,(cut_at e).2⟩,fun b o e n _ => ?_,fun b o e _ => ⟨o,(cut_at e).2⟩,fun b xs e => (res_some e).2,fun b o u e => (res_some e).2,fun b ps e => ⟨#[],by rw [(res_some e).2]; simp⟩⟩
  have n':resH g.lo H b = none:=n
  rw [res_lt (cut_at e).1] at n'; exact n'
 loc:=loc
 cell:=fun x c e => by
  have e':g.env.cells.lookup x = some c:=e
  rw [ok.nocell] at e'; cases e'
 free:=free
 freeC:=fun x c e => by
  have e':g.env.cells.lookup x = some c:=e
  rw [ok.nocell] at e'; cases e'
 pin:=fun p hp => kp p (by simpa using hp)
 hok:=hok
 len:=len
theorem gen_made {X:Cx} {pins:List (Addr × Obj)} {σ:L2.St} {H:Hp} {s:Shared} (I:Inv X pins σ H s) {f:Addr} {name qual:Str} {params:Arguments} {body:List Stmt} {scope:Scope} {dV kV doc pm cdv ct oc:Value} {an od:Option Addr} {osl:Array (Option Value)} {N ps:List Str}
  (lk:X.K.lookup f = some ⟨oc,od,.func (PySem.W.fnOf name qual params body scope dV kV doc pm an cdv ct),osl⟩) (hcd:PySem.W.codeIn X.K cdv qual = true) (Sc:GScope N ps scope) (hcf:∀ n,cellsFrom n scope.names [] = []) (hnc:∀ x,scope.names.lookup x ≠ some .cell ∧ scope.names.lookup x ≠ some .free) {k:Nat} (hr:Room 1 X.A)
  {args:Args} {us:List Value} {vs:List V} (hb:BindsTo s (PySem.W.fnOf name qual params body scope dV kV doc pm an cdv ct) args (ps.zip us)) (r:Vals vs us) (hl:vs.length = ps.length) {F:Hp} (cov:Cov F H) (far:Far X pins H s.heap.objs.size) {L:List V} {vs0:List Value} (hv:Vals L vs0) {Kt:List V → Hp → Hp → Nat → Prop} (hK:Kt L H F s.heap.objs.size)
  (hbody:∀ (A0:Around) (gi:Nat) (a:Addr) (go:Obj) (Z:List Addr),Room k A0 → Stat ⟨X.prog,X.w,X.K,X.mg,X.base,N,qual,scope,f,cdv,A0.in1,X.stack,s.heap.objs.size,Z⟩ gi a F [(a,go)] [] →
   Tris ⟨X.prog,X.w,X.K,X.mg,X.base,N,qual,scope,f,cdv,A0.in1,X.stack,s.heap.objs.size,Z⟩ gi a F vs0 [(a,go)] [] body (fun i σ H' => i = 0 ∧ σ = start N vs ∧ H' = F) (fun i _ _ => i = vs0.length)) :
  codeAny (model X.prog X.w) X.A (.call (.ref f) args) (fun r s' => match r with | .ok (.ret u) => GenV X pins σ k Kt s.gens.size u s' | _ => False) s:=by
 have KX:X.K.In s.heap:=I.kIn
 have lim:s.heap.NoLimit:=I.nolimit
 have hkind:∀ y ∈ ps.zip us,scope.names.lookup y.1 = some .local ∨ (scope.names.lookup y.1 = some .cell ∧ ((cellsFrom (s.heap.objs.size + 1) scope.names []).lookup y.1).isSome = true):=fun ⟨n,v⟩ hy => by
  rcases Sc.par n (List.of_mem_zip hy).1 with q | q
  ·exact .inl q
  ·exact absurd q (hnc n).1
 refine codeAny_call_generator hr.depth (KX _ _ lk) rfl Sc.co Sc.gen rfl (PySem.W.codeRec_of KX hcd) (hb _ _ _ _ ?_)
 refine wpAny_newFunctionEnv_cells Sc.kind hkind fun env he s1 x => ?_
 subst he
 have x:InCallC s s.heap.objs.size (bindL (envOfC qual scope s.heap.objs.size f cdv).kindOf (ps.zip us) fun _ => none) (cellsFrom (s.heap.objs.size + 1) scope.names []) (bindC (envOfC qual scope s.heap.objs.size f cdv).kindOf (ps.zip us) fun _ => none) s1:=x
 refine ⟨lim.keeps x.toInCall.keep,?_⟩
 obtain ⟨h1,tk,es1,hk1⟩:=x.done
 have os1:s1.os = s.os:=by rw [es1]
 have gen1:s1.gens = s.gens:=by rw [es1]
 have lt1:s.heap.objs.size < s1.heap.objs.size:=x.toInCall.ns.lt
 have kp1:∀ b o,s.heap.get? b = some o → s1.heap.get? b = some o:=x.toInCall.keep
 have main:∀ (go:Obj) (nm qn:Value) (tk2:Nat),go.cls = .type "generator" → go.data = .fields #[.int s1.gens.size 0,nm,qn] → go.slots = #[] → (∀ h:Heap,(h.push go).get? h.objs.size = some go) →
   GenV X pins σ k Kt s.gens.size (.ref s1.heap.objs.size) { s1 with gens:=s1.gens.push (.fresh (.func body (envOfC qual scope s.heap.objs.size f cdv))),toks:=tk2,heap:=s1.heap.push go }:=by
  intro go nm qn tk2 hgc hgd hgs hgp
  have ga:(s1.heap.push go).get? s1.heap.objs.size = some go:=hgp _
  have kp2:∀ b o,s.heap.get? b = some o → (s1.heap.push go).get? b = some o:=fun b o e => Heap.get?_push_of_some _ (kp1 b o e)
  have B:AllBare (s1.gens.push (.fresh (.func body (envOfC qual scope s.heap.objs.size f cdv)))):=AllBare.push (by rw [gen1]; exact I.bare) rfl
  have I':Inv X pins σ H { s1 with gens:=s1.gens.push (.fresh (.func body (envOfC qual scope s.heap.objs.size f cdv))),toks:=tk2,heap:=s1.heap.push go } :=
   I.call' (ch:=[]) os1 (Un.kept kp2) (I.hok.kept kp2) B fun b z => by simp at z
  have hF0:∀ b,H b = none → F b = none:=fun b n => by
   cases q:F b with
   | none => rfl
   | some u => rw [cov.sub b u q] at n; cases n
  have young:∀ b,s.heap.objs.size ≤ b → H b = none:=fun b hb => I.hok.fresh hb
  refine ⟨⟨X.prog,X.w,X.base,X.A,X.stack,s.heap.objs.size,s1.gens.size,s1.heap.objs.size,F,[]⟩,vs0,L,H,rfl,rfl,rfl,rfl,rfl,hv,I',⟨go,nm,qn,ga,hgc,hgd,hgs⟩,far,fun A0 Z hA0 hr0 hZ => ?_,by rw [gen1]; exact Nat.le_refl _,cov,hK⟩
  let g:GFr:=⟨X.prog,X.w,X.K,X.mg,X.base,N,qual,scope,f,cdv,A0.in1,X.stack,s.heap.objs.size,Z⟩
  have zgt:∀ b ∈ Z,s.heap.objs.size < b:=fun b hb => by
   have h1:(s1.heap.push go).objs.size ≤ b:=hZ b hb
   have e:(s1.heap.push go).objs.size = s1.heap.objs.size + 1:=Heap.size_push ..
   rw [e] at h1
   exact Nat.lt_trans lt1 h1
  have ok:g.Ok:=⟨I.ok.mod,Sc.kind,hr0.hd,hA0,Nat.le_trans I.ok.bsz I.sz,hcf _,fun y => hnc y,fun b hb => by
   obtain ⟨_,o,e,_⟩:=I.env0.funs.mem hb
   exact Heap.lt_size e⟩
  have flo:∀ b u,F b = some u → b < s.heap.objs.size:=fun b u e => far.h b u (cov.sub b u e)
  have S:Stat g s1.gens.size s1.heap.objs.size F [(s1.heap.objs.size,go)] []:=⟨ok,flo,fun p hp => by
   rw [List.mem_singleton.mp hp]; exact Nat.le_of_lt lt1,⟨go,nm,qn,List.mem_singleton.mpr rfl,hgc,hgd,hgs⟩,fun p hp => by simp at hp,fun p hp z => by
   rw [List.mem_singleton.mp hp] at z
   have:=hZ _ z
   have e:(s1.heap.push go).objs.size = s1.heap.objs.size + 1:=Heap.size_push ..
   have this':(s1.heap.push go).objs.size ≤ s1.heap.objs.size:=this
   rw [e] at this'
   exact Nat.not_succ_le_self _ this',fun b hb => Nat.le_of_lt (zgt b hb)⟩
  refine genP_seg (g:=g) (vs0:=vs0) rfl hr0.hd hr0.depth (fun s2 kb => I.ok.mod.nolimit.keeps kb) vs0.length 0 _ (.fresh (.func body (envOfC qual scope s.heap.objs.size f cdv))) [s.heap.objs.size,s1.heap.objs.size] [s1.gens.size] false (Nat.zero_add _) (by simp) ⟨fun b hb => ?_,by simp,fun j hj => by rw [List.mem_singleton.mp hj]; exact Nat.le_refl _⟩ (fun z => by cases z) ⟨go,nm,qn,ga,hgc,hgd,hgs⟩ (Array.getElem?_push_size ..) (fun s2 z => ⟨rfl,?_⟩)
  ·rcases List.mem_cons.mp hb with rfl | hb
   ·obtain ⟨o,es,ep,e,hd,_⟩:=x.toInCall.ns
    exact ⟨Nat.le_refl _,fun z => absurd (zgt _ z) (Nat.lt_irrefl _),o,Heap.get?_push_of_some _ e,fun v q => by rw [hd] at q; cases q⟩
   ·rw [List.mem_singleton.mp hb]
    exact ⟨Nat.le_of_lt lt1,fun z => S.pz _ (List.mem_singleton.mpr rfl) z,go,ga,fun v q => by rw [hgd] at q; cases q⟩
  ·have g2:=z.gens s1.gens.size _ (by simp) (Array.getElem?_push_size ..)
   have gl2:s1.gens.size < s2.gens.size:=(Array.getElem?_eq_some_iff.mp g2).1
   have nsO:s2.heap.Ns s.heap.objs.size (bindL (envOfC qual scope s.heap.objs.size f cdv).kindOf (ps.zip us) fun _ => none) :=
    x.toInCall.ns.at fun o e => z.own _ o (by simp) (Heap.get?_push_of_some _ e)
   have ea:s2.heap.get? s1.heap.objs.size = some go:=z.own _ go (by simp) ga
   have hpl:ps.length ≤ N.length:=by have:=congrArg List.length Sc.pre; rw [List.length_take] at this; omega
   have W:g.World (s2.setGen s1.gens.size .running) F:=⟨fun y hy => allBare_setGen z.bare rfl y hy,Nat.le_of_lt nsO.lt,fun b o e => ⟨z.kb b o e,hF0 b (I.bs b o e).2⟩,z.ff,fun b hb => hF0 b (I.stkFree b hb)⟩
   have inv:Inv (g.X (s2.setGen s1.gens.size .running) F) (pinsAt g.Z (s2.setGen s1.gens.size .running).heap ++ [(s1.heap.objs.size,go)]) (start N vs) F (s2.setGen s1.gens.size .running):=by
    refine GFr.inv ok W ⟨_,nsO,fun i y v h1 h2 h3 => ?_⟩ (hF0 _ (young _ (Nat.le_refl _))) z.fz (fun p hp => ?_) ?_
    ·have hi:i < vs.length:=by
      unfold L2.start at h2
      by_cases hi:i < vs.length
      ·exact hi
      ·rw [List.getElem?_append_right (by simpa using hi)] at h2
       rw [List.getElem?_replicate] at h2
       split at h2 <;> cases h2
     have ha:vs[i]? = some v:=by
      unfold L2.start at h2
      rw [List.getElem?_append_left (by simpa using hi),List.getElem?_map] at h2
      cases e:vs[i]? with
      | none => rw [e] at h2; cases h2
      | some a => rw [e] at h2; cases h2; rfl
     obtain ⟨u,hu,rv⟩:=r.get ha
     have hp:ps[i]? = some y:=by
      rw [← Sc.pre,List.getElem?_take_of_lt (by omega)]; exact h1
     have ndP:ps.Nodup:=by rw [← Sc.pre]; exact Sc.nd.sublist (List.take_sublist _ _)
     refine ⟨u,rv,?_⟩
     rcases Sc.par y (List.mem_of_getElem? hp) with k | k
     ·exact .inl ⟨k,bindL_get ndP hp hu k⟩
     ·exact absurd k (hnc y).1
    ·rcases List.mem_append.mp hp with hp | hp
     ·obtain ⟨hz,e⟩:=of_pinsAt hp
      obtain ⟨o,e2,nc,nf,_⟩:=z.zz _ hz
      have e':s2.heap.get? p.1 = some p.2:=e
      rw [e'] at e2
      obtain rfl:=Option.some.inj e2
      exact ⟨e,hF0 _ (young _ (Nat.le_of_lt (zgt _ hz))),Nat.ne_of_gt (zgt _ hz),nf,nc⟩
     rw [List.mem_singleton.mp hp]
     refine ⟨ea,hF0 _ (young _ (Nat.le_of_lt lt1)),Nat.ne_of_gt lt1,fun z => ?_,fun v q => by rw [hgd] at q; cases q⟩
     exact absurd (Nat.lt_trans (ok.fl _ z) lt1) (Nat.lt_irrefl _)
    ·unfold L2.start
     show _ = N.length
     rw [List.length_append,List.length_map,List.length_replicate]
     omega
   have here:Here g s1.gens.size F (s2.setGen s1.gens.size .running) F [(s1.heap.objs.size,go)] [] (start N vs) F (s2.setGen s1.gens.size .running) :=
    ⟨inv,fun b hb => (z.zz b hb).imp fun o q => q.1,fun _ _ _ e _ => e,by rw [setGen_get,if_pos rfl,if_pos gl2],⟨⟨fun _ _ e => e,cov.fr⟩,[],fun b u e => .inl e⟩,fun _ _ => rfl,fun p hp => by simp at hp,Nat.le_of_lt nsO.lt⟩
   refine seg_func ?_
   refine (hbody A0 s1.gens.size s1.heap.objs.size go Z hr0 S).run (.func body (envOfC qual scope s.heap.objs.size f cdv)) [] _ _ id id ⟨over_func,rfl,rfl,rfl⟩ (fun n' s₀' s' Hw' σ' H' i' hr' hn' po => ?_) vs0.length _ _ F _ F 0 here (Nat.zero_add _) ⟨rfl,rfl,rfl⟩
   have po':i' = vs0.length:=po
   exact seg_end (.ok (.ret .none)) (.inl ⟨.inl rfl,by omega,hr'.turned S⟩)
 exact main _ _ _ _ rfl rfl rfl fun h => Heap.get?_push_size _ rfl
end
end GG
namespace GG
open PySem PySem.Spec PyProof.Rows L2 GenW
section
def tDNewLo (lo:Nat):TE:=fun _ H Q => ∀ p,H p = none → lo ≤ p → Q (.ref p) (upd H p (.dK []))
theorem pe_dnewLo {X:Cx} {pos:Pos} {lo:Nat} (hl:X.env.locals = lo):PE X (.Dict [] [] pos) (tDNewLo lo):=⟨fun pins s σ H Q I h =>
 wpAny_Dict_empty ⟨.ref s.heap.objs.size,_,I.laid (a:=s.heap.objs.size) (o := .dK []) (t':=s.toks) (fun _ _ q => Heap.get?_push_of_some _ q) (Nat.le_refl _) (dk_empty s.heap I.big),rfl,h _ (I.hok.fresh (Nat.le_refl _)) (by rw [← hl]; exact Nat.le_of_lt I.lt)⟩⟩
inductive TT where
 | mk (a dx pl:Addr) (x:Str) (ps:List TT)
def TT.adr:TT → Addr
 | .mk a _ _ _ _ => a
def TT.txt:TT → Str
 | .mk _ _ _ x _ => x
def refs (l:List TT):List V:=l.map fun t => V.ref t.adr
def vals (l:List TT):List Value:=l.map fun t => Value.ref t.adr
mutual
def TIn (C:Addr) (F:Hp):TT → Prop
 | .mk a dx pl x ps => (∃ fs,F a = some (.ins C dx fs) ∧ F dx = some (.own a) ∧ fs.lookup ("text" : Str) = some (V.str x) ∧ fs.lookup ("parts" : Str) = some (V.ref pl) ∧ fs.lookup ("subterms" : Str) = none ∧ F pl = some (.lst (refs ps))) ∧ TIns C F ps
def TIns (C:Addr) (F:Hp):List TT → Prop
 | [] => True
 | t :: ts => TIn C F t ∧ TIns C F ts
end
theorem TIns.get {C:Addr} {F:Hp}:∀ {ts:List TT} {k:Nat} {t:TT},TIns C F ts → ts[k]? = some t → TIn C F t
 | [],k,t,_,e => by simp at e
 | u :: us,0,t,h,e => by rw [TIns] at h; simp at e; subst e; exact h.1
 | u :: us,k + 1,t,h,e => by rw [TIns] at h; exact TIns.get (k:=k) h.2 (by simpa using e)
mutual
def ht:TT → Nat
 | .mk _ _ _ _ ps => hts ps + 1
def hts:List TT → Nat
 | [] => 0
 | t :: ts => max (ht t) (hts ts)
end
def add1 (o:List TT) (t:TT):List TT:=if o.any (fun u => decide (u.txt = t.txt)) then o else o ++ [t]
def addN (o l:List TT):List TT:=l.foldl add1 o
mutual
def subs:TT → List TT
 | .mk a dx pl x ps => (subsAll ps).foldl addN [] ++ [.mk a dx pl x ps]
def subsAll:List TT → List (List TT)
 | [] => []
 | t :: ts => subs t :: subsAll ts
end
theorem subsAll_map:∀ ts:List TT,subsAll ts = ts.map subs
 | [] => rfl
 | t :: ts => by rw [subsAll,subsAll_map ts]; rfl
theorem take_fold {α β:Type} (f:β → α → β) (b:β) {l:List α} {k:Nat} {x:α} (h:l[k]? = some x):(l.take (k + 1)).foldl f b = f ((l.take k).foldl f b) x:=by
 obtain ⟨hi,e⟩:=List.getElem?_eq_some_iff.mp h
 rw [List.take_succ_eq_append_getElem hi,e,List.foldl_append]; rfl
theorem addN_len (o l:List TT):o.length ≤ (addN o l).length:=by
 induction l generalizing o with
 | nil => exact Nat.le_refl _
 | cons t ts ih =>
  refine Nat.le_trans ?_ (ih (add1 o t))
  unfold add1
  split
  ·exact Nat.le_refl _
  ·simp
def seenD (o:List TT):List (Key × V):=o.map fun t => (Sum.inr t.txt,V.bl true)
theorem seen_look (o:List TT) (x:Str):(valV (seenD o) (Sum.inr x)).isSome = o.any fun u => decide (u.txt = x):=by
 induction o with
 | nil => rfl
 | cons t ts ih =>
  by_cases e:t.txt = x
  ·subst e
   show (valV ((Sum.inr t.txt,V.bl true) :: seenD ts) _).isSome = _
   rw [valV_pos rfl]; simp
  ·show (valV ((Sum.inr t.txt,V.bl true) :: seenD ts) _).isSome = _
   rw [valV_neg (by intro z; exact e (Sum.inr.inj z)),ih]; simp [e]
theorem seen_put (o:List TT) (t:TT) (h:(o.any fun u => decide (u.txt = t.txt)) = false):putK (seenD o) (Sum.inr t.txt) (V.bl true) = seenD (o ++ [t]):=by
 have z:valV (seenD o) (Sum.inr t.txt) = none:=by
  have:=seen_look o t.txt
  rw [h] at this
  cases q:valV (seenD o) (Sum.inr t.txt) with
  | none => rfl
  | some v => rw [q] at this; cases this
 rw [putK_new _ z]; simp [seenD]
theorem add1_pre (o:List TT) (t:TT):o <+: add1 o t:=by
 unfold add1
 split
 ·exact List.prefix_refl o
 ·exact List.prefix_append o [t]
theorem addN_pre (o:List TT):∀ l:List TT,o <+: addN o l:=by
 intro l
 induction l generalizing o with
 | nil => exact List.prefix_refl o
 | cons t ts ih => exact (add1_pre o t).trans (ih (add1 o t))
theorem fold_pre (o:List TT):∀ ls:List (List TT),o <+: ls.foldl addN o:=by
 intro ls
 induction ls generalizing o with
 | nil => exact List.prefix_refl o
 | cons t ts ih => exact (addN_pre o t).trans (ih (addN o t))
def outK (ps:List TT) (k:Nat):List TT:=((ps.take k).map subs).foldl addN []
theorem outK_succ {ps:List TT} {k:Nat} {u:TT} (h:ps[k]? = some u):outK ps (k + 1) = addN (outK ps k) (subs u):=by
 unfold outK
 obtain ⟨hi,e⟩:=List.getElem?_eq_some_iff.mp h
 rw [List.take_succ_eq_append_getElem hi,e,List.map_append,List.foldl_append]; rfl
theorem outK_pre (ps:List TT) (k:Nat):outK ps k <+: (subsAll ps).foldl addN []:=by
 unfold outK
 rw [subsAll_map]
 have e:ps.map subs = (ps.take k).map subs ++ (ps.drop k).map subs:=by rw [← List.map_append,List.take_append_drop]
 rw [e,List.foldl_append]
 exact fold_pre _ _
theorem outK_all (ps:List TT) {k:Nat} (h:ps.length ≤ k):outK ps k = (subsAll ps).foldl addN []:=by
 unfold outK
 rw [subsAll_map,List.take_of_length_le h]
theorem addN_take {o l:List TT} {j:Nat} {t:TT} (h:l[j]? = some t):addN o (l.take (j + 1)) = add1 (addN o (l.take j)) t:=take_fold add1 o h
theorem addN_takePre (o l:List TT) (j:Nat):addN o (l.take j) <+: addN o l:=by
 have e:addN o l = addN (addN o (l.take j)) (l.drop j):=by
  unfold addN
  rw [← List.foldl_append,List.take_append_drop]
 rw [e]; exact addN_pre _ _
theorem addN_mem:∀ {l o:List TT} {t:TT},t ∈ addN o l → t ∈ o ∨ t ∈ l:=by
 intro l
 induction l with
 | nil => exact fun h => .inl h
 | cons u us ih =>
  intro o t h
  rcases ih (o:=add1 o u) h with h | h
  ·unfold add1 at h
   split at h
   ·exact .inl h
   ·rcases List.mem_append.mp h with h | h
    ·exact .inl h
    ·rw [List.mem_singleton.mp h]; exact .inr (.head _)
  ·exact .inr (.tail _ h)
theorem foldN_mem:∀ {ls:List (List TT)} {o:List TT} {t:TT},t ∈ ls.foldl addN o → t ∈ o ∨ ∃ l ∈ ls,t ∈ l:=by
 intro ls
 induction ls with
 | nil => exact fun h => .inl h
 | cons u us ih =>
  intro o t h
  rcases ih (o:=addN o u) h with h | ⟨l,h1,h2⟩
  ·rcases addN_mem h with h | h
   ·exact .inl h
   ·exact .inr ⟨u,.head _,h⟩
  ·exact .inr ⟨l,.tail _ h1,h2⟩
mutual
theorem subs_in {C:Addr} {F:Hp}:∀ {u:TT},TIn C F u → ∀ t ∈ subs u,TIn C F t
 | .mk a dx pl x ps,h,t,ht => by
  rw [subs] at ht
  rcases List.mem_append.mp ht with ht | ht
  ·rcases foldN_mem ht with ht | ⟨l,h1,h2⟩
   ·simp at ht
   ·rw [TIn] at h
    exact subsAll_in h.2 l h1 t h2
  ·rw [List.mem_singleton.mp ht]; exact h
theorem subsAll_in {C:Addr} {F:Hp}:∀ {us:List TT},TIns C F us → ∀ l ∈ subsAll us,∀ t ∈ l,TIn C F t
 | [],_,l,hl,_,_ => by simp [subsAll] at hl
 | u :: us,h,l,hl,t,ht => by
  rw [TIns] at h
  rw [subsAll] at hl
  rcases List.mem_cons.mp hl with rfl | hl
  ·exact subs_in h.1 t ht
  ·exact subsAll_in h.2 l hl t ht
end
theorem TIn.at {C:Addr} {F:Hp}:∀ {t:TT},TIn C F t → ∃ dx fs,F t.adr = some (.ins C dx fs) ∧ fs.lookup ("text" : Str) = some (V.str t.txt)
 | .mk a dx pl x ps,h => by
  rw [TIn] at h
  obtain ⟨⟨fs,h1,_,h2,_⟩,_⟩:=h
  exact ⟨dx,fs,h1,h2⟩
mutual
def nodes:TT → List Addr
 | .mk a dx pl _ ps => a :: dx :: pl :: nodess ps
def nodess:List TT → List Addr
 | [] => []
 | t :: ts => nodes t ++ nodess ts
end
def NodeAt (C:Addr) (H:Hp) (ns:List Addr) (b:Addr):Prop:=(∃ dx fs,H b = some (.ins C dx fs) ∧ dx ∈ ns ∧ H dx = some (.own b)) ∨ (∃ a u,H b = some (.own a) ∧ a ∈ ns ∧ H a = some u) ∨ ∃ xs,H b = some (.lst xs)
theorem NodeAt.mono {C:Addr} {H:Hp} {ns ms:List Addr} {b:Addr} (h:NodeAt C H ns b) (k:∀ x ∈ ns,x ∈ ms):NodeAt C H ms b:=by
 rcases h with ⟨dx,fs,h1,h2,h3⟩ | ⟨a,u,h1,h2,h3⟩ | h
 ·exact .inl ⟨dx,fs,h1,k _ h2,h3⟩
 ·exact .inr (.inl ⟨a,u,h1,k _ h2,h3⟩)
 ·exact .inr (.inr h)
mutual
theorem node_at {C:Addr} {H:Hp}:∀ {t:TT},TIn C H t → ∀ b ∈ nodes t,NodeAt C H (nodes t) b
 | .mk a dx pl x ps,h,b,hb => by
  rw [TIn] at h
  obtain ⟨⟨fs,h1,h2,_,_,_,h5⟩,hs⟩:=h
  rw [nodes] at hb ⊢
  simp only [List.mem_cons] at hb
  rcases hb with rfl | rfl | rfl | hb
  ·exact .inl ⟨dx,fs,h1,by simp,h2⟩
  ·exact .inr (.inl ⟨a,_,h2,by simp,h1⟩)
  ·exact .inr (.inr ⟨_,h5⟩)
  ·exact (nodes_at hs b hb).mono fun x hx => by simp [hx]
theorem nodes_at {C:Addr} {H:Hp}:∀ {ts:List TT},TIns C H ts → ∀ b ∈ nodess ts,NodeAt C H (nodess ts) b
 | [],_,b,hb => by simp [nodess] at hb
 | t :: ts,h,b,hb => by
  rw [TIns] at h
  rw [nodess] at hb ⊢
  rcases List.mem_append.mp hb with hb | hb
  ·exact (node_at h.1 b hb).mono fun x hx => List.mem_append_left _ hx
  ·exact (nodes_at h.2 b hb).mono fun x hx => List.mem_append_right _ hx
end
mutual
theorem TIn.of {C:Addr} {F F':Hp}:∀ {t:TT},TIn C F t → (∀ b ∈ nodes t,F' b = F b) → TIn C F' t
 | .mk a dx pl x ps,h,k => by
  rw [TIn] at h ⊢
  obtain ⟨⟨fs,h1,h2,h3,h4,h5,h6⟩,hs⟩:=h
  rw [nodes] at k
  exact ⟨⟨fs,by rw [k a (by simp)]; exact h1,by rw [k dx (by simp)]; exact h2,h3,h4,h5,by rw [k pl (by simp)]; exact h6⟩,TIns.of hs fun b hb => k b (by simp [hb])⟩
theorem TIns.of {C:Addr} {F F':Hp}:∀ {ts:List TT},TIns C F ts → (∀ b ∈ nodess ts,F' b = F b) → TIns C F' ts
 | [],_,_ => trivial
 | t :: ts,h,k => by
  rw [TIns] at h ⊢
  rw [nodess] at k
  exact ⟨TIn.of h.1 fun b hb => k b (List.mem_append_left _ hb),TIns.of h.2 fun b hb => k b (List.mem_append_right _ hb)⟩
end
def cutT (H:Hp) (t:TT):Hp:=fun b => if b ∈ nodes t then H b else none
theorem cutT_some {H:Hp} {t:TT} {b:Addr} {u:HO} (e:cutT H t b = some u):b ∈ nodes t ∧ H b = some u:=by
 unfold cutT at e
 split at e
 ·exact ⟨by assumption,e⟩
 ·cases e
theorem clo_cut {C:Addr} {H:Hp} {t:TT} (h:TIn C H t):Clo (cutT H t) where
 own:=fun b u C' dx fs e q => by
  obtain ⟨hb,e⟩:=cutT_some e
  rcases node_at h b hb with ⟨dx2,fs2,h1,h2,h3⟩ | ⟨a,u2,h1,_,_⟩ | ⟨xs,h1⟩
  ·rw [h1] at e
   obtain rfl:=Option.some.inj e
   cases q
   show (if dx ∈ nodes t then H dx else none) = _
   rw [if_pos h2]; exact h3
  ·rw [h1] at e
   obtain rfl:=Option.some.inj e
   cases q
  ·rw [h1] at e
   obtain rfl:=Option.some.inj e
   cases q
 nodT:=fun b u kvs e q => by
  obtain ⟨hb,e⟩:=cutT_some e
  rcases node_at h b hb with ⟨dx2,fs2,h1,h2,h3⟩ | ⟨a,u2,h1,_,_⟩ | ⟨xs,h1⟩
  ·rw [h1] at e
   obtain rfl:=Option.some.inj e
   cases q
  ·rw [h1] at e
   obtain rfl:=Option.some.inj e
   cases q
  ·rw [h1] at e
   obtain rfl:=Option.some.inj e
   cases q
 clo:=fun d b e => by
  obtain ⟨hb,e⟩:=cutT_some e
  rcases node_at h d hb with ⟨dx2,fs2,h1,h2,h3⟩ | ⟨a,u2,h1,h2,h3⟩ | ⟨xs,h1⟩
  ·rw [h1] at e; cases e
  ·rw [h1] at e
   obtain rfl:=HO.own.inj (Option.some.inj e)
   exact ⟨u2,by show (if a ∈ nodes t then H a else none) = _; rw [if_pos h2]; exact h3⟩
  ·rw [h1] at e; cases e
theorem cov_cut {C:Addr} {H:Hp} {t:TT} (h:TIn C H t):Cov (cutT H t) H:=⟨fun b u e => (cutT_some e).2,clo_cut h⟩
theorem tin_cut {C:Addr} {H:Hp} {t:TT} (h:TIn C H t):TIn C (cutT H t) t:=h.of fun b hb => if_pos hb
end
section
def top3 (i:Nat):Stmt:=PySem.Challenge.pw_splitplans_k02_second_stories_of_terms.main.body.getD i (.Pass ⟨0,0,0,0⟩)
abbrev s_sub:Stmt:=inClass (top3 13) 4
abbrev N_sub:List Str:=["self","seen","part","term"]
theorem sc_sub:GScope N_sub ["self"] (defScope s_sub):=⟨rfl,rfl,rfl,by decide +kernel,rfl,by decide +kernel,by decide +kernel⟩
theorem nocell_sub:∀ y ∈ (defScope s_sub).names,y.2 ≠ .cell:=by decide +kernel
theorem cf_sub (n:Nat):cellsFrom n (defScope s_sub).names [] = []:=by rfl
theorem nc_sub (x:Str):(defScope s_sub).names.lookup x ≠ some .cell ∧ (defScope s_sub).names.lookup x ≠ some .free :=
 ⟨fun h => nocell_sub _ (PySem.mem_of_lookup h) rfl,fun h => sc_sub.nofree _ (PySem.mem_of_lookup h) rfl⟩
structure SubK (K:PySem.W.Frag) (C:Addr):Prop where
 cl:Cls K C
 nt:NoAttr K C "text"
 np:NoAttr K C "parts"
def StP (lo:Nat) (F:Hp) (a:Addr) (o:List TT) (p q:Option V):PrS:=fun i σ H => i = o.length ∧ ∃ d,F d = none ∧ lo ≤ d ∧ σ = [some (.ref a),some (.ref d),p,q] ∧ H = upd F d (.dK (seenD o))
theorem cov_seen {F:Hp} {d:Addr} {xs:List (Key × V)} (c:Clo F) (hd:F d = none):Cov F (upd F d (.dK xs)) :=
 ⟨fun b u e => by rw [upd_ne (ne_of_none e hd)]; exact e,c⟩
theorem okH_seen {g:GFr} {F:Hp} {d:Addr} {xs:List (Key × V)} (c:Clo F) (hd:F d = none) (hl:g.lo ≤ d):OkH g F (upd F d (.dK xs)):=by
 refine ⟨cov_seen c hd,[d],fun b u e => ?_⟩
 by_cases z:b = d
 ·subst z
  rw [upd_same] at e
  exact .inr ⟨hl,by simp,_,(Option.some.inj e).symm⟩
 ·rw [upd_ne z] at e; exact .inl e
def CallEq (env:Env) (o:Expr) (apos pos':Pos) (pl:Sem Bool):Prop:=eval (.Call (.Attribute o "subterms" apos) [] [] pos') env = (do
   let ov ← eval o env
   standAt apos.atName
   let (f,first) ← holding [ov] (getMethod ov "subterms" pl)
   callWith pos' f first (backTo pos' (starEach [] env)) (backToKw pos' (keywordEach [] env)))
def tSub (C:Addr) (F:Hp) (te:TE) (t:TT):TGi:=fun σ H Kt => te σ H fun x H1 => x = .ref t.adr ∧ Cov F H1 ∧ ∀ lo,(∀ b u,H1 b = some u → b < lo) → Kt (refs (subs t)) H1 F lo
section
variable {P:Program} {w:World} {K:PySem.W.Frag} {mg:Str → Option Value} {base:Heap} {f:Addr} {cd:Value} {A:Around} {outer:List Env} {lo gi:Nat} {aG:Addr} {go:Obj} {F:Hp} {C:Addr} {Z:List Addr} {kL:Nat}
theorem tri_body (S:Stat ⟨P,w,K,mg,base,N_sub,"Term.subterms",defScope s_sub,f,cd,A,outer,lo,Z⟩ gi aG F [(aG,go)] []) (k:SubK K C) (a dx pl:Addr) (x:Str) (ps:List TT) (tin:TIn C F (.mk a dx pl x ps)) (clo:Clo F) (hu:A.units + 100 < cLine) (h1000:(subs (.mk a dx pl x ps)).length ≤ 30000)
  (inner:∀ p ∈ ps,∀ (sw:Shared) (Hw:Hp) (o:Expr) (te:TE) (apos pos':Pos) (pl:Sem Bool),PE (GFr.X ⟨P,w,K,mg,base,N_sub,"Term.subterms",defScope s_sub,f,cd,A,outer,lo,Z⟩ sw Hw) o te → CallEq (envOfC "Term.subterms" (defScope s_sub) lo f cd) o apos pos' pl →
   PGi (GFr.X ⟨P,w,K,mg,base,N_sub,"Term.subterms",defScope s_sub,f,cd,A,outer,lo,Z⟩ sw Hw) kL (.Call (.Attribute o "subterms" apos) [] [] pos') (tSub C F te p)) (hroom:Room kL (A.deeper (envOfC "Term.subterms" (defScope s_sub) lo f cd))) :
  Tris ⟨P,w,K,mg,base,N_sub,"Term.subterms",defScope s_sub,f,cd,A,outer,lo,Z⟩ gi aG F (vals (subs (.mk a dx pl x ps))) [(aG,go)] [] (defBody s_sub) (fun i σ H' => i = 0 ∧ σ = L2.start N_sub [.ref a] ∧ H' = F) (fun i _ _ => i = (vals (subs (.mk a dx pl x ps))).length):=by
 rw [TIn] at tin
 obtain ⟨⟨fs,h1,_,h2,h3,h4,h5⟩,hps⟩:=tin
 have nd:N_sub.Nodup:=sc_sub.nd
 have main:Tris ⟨P,w,K,mg,base,N_sub,"Term.subterms",defScope s_sub,f,cd,A,outer,lo,Z⟩ gi aG F (vals (subs (.mk a dx pl x ps))) [(aG,go)] [] (defBody s_sub) (fun i σ H' => i = 0 ∧ σ = L2.start N_sub [.ref a] ∧ H' = F) (fun i _ _ => i = (vals (subs (.mk a dx pl x ps))).length):=by
  refine tris_cons (mid:=fun i σ H => ∃ p q,StP lo F a (outK ps 0) p q i σ H) (tri_plain S (fun sw Hw => ps_set (i:=1) nd rfl (Or.inl rfl) (pe_dnewLo (lo:=lo) rfl)) ?_) ?_
  ·rintro i σ H ⟨rfl,rfl,rfl⟩ _ p hp hl
   exact ⟨okH_seen clo hp hl,none,none,rfl,p,hp,hl,rfl,rfl⟩
  refine tris_cons (mid:=fun i σ H => ∃ p q,StP lo F a (outK ps ps.length) p q i σ H) (tri_for (wi:=iList K (tFld K (tVar 0) "parts")) (gt:=gName 2) S (fun sw Hw => pi_list (pe_fld (pv 0) rfl)) (fun sw Hw => pg_name (i:=2) nd rfl (Or.inl rfl)) ps.length (fun k i σ H => ∃ p q,StP lo F a (outK ps k) p q i σ H)
   (fun k i σ H => ∃ u q,ps[k]? = some u ∧ StP lo F a (outK ps k) (some (.ref u.adr)) q i σ H) ?_ ?_) ?_
  ·rintro i σ H ⟨p,q,rfl,d,hd,hl,rfl,rfl⟩ ok
   have ea:upd F d (.dK (seenD (outK ps 0))) a = some (.ins C dx fs):=by rw [upd_ne (ne_of_none h1 hd)]; exact h1
   refine ⟨_,rfl,a,C,dx,fs,_,rfl,ea,k.cl,k.np,h3,pl,rfl,⟨refs ps,SqL.of (by rw [upd_ne (ne_of_none h5 hd)]; exact h5)⟩,ok,⟨p,q,rfl,d,hd,hl,rfl,rfl⟩,?_⟩
   rintro j i σ H ⟨p,q,rfl,d,hd,hl,rfl,rfl⟩ ok
   have e5:SqL K (upd F d (.dK (seenD (outK ps j)))) pl (refs ps):=SqL.of (by rw [upd_ne (ne_of_none h5 hd)]; exact h5)
   by_cases hj:j < ps.length
   ·refine .inr ⟨hj,⟨refs ps,.ref (ps[j]).adr,e5,by simp [refs,hj]⟩,?_⟩
    rintro y H' ⟨rfl,yl⟩
    have yv:=yl (refs ps) e5
    have ey:y = .ref (ps[j]).adr:=by
     have e2:(refs ps)[j]? = some (.ref (ps[j]).adr):=by simp [refs,hj]
     rw [e2] at yv
     exact (Option.some.inj yv).symm
    subst ey
    exact ⟨ok,ok,ps[j],q,List.getElem?_eq_getElem hj,rfl,d,hd,hl,rfl,rfl⟩
   ·refine .inl ⟨⟨refs ps,e5,by simp [refs]; omega⟩,p,q,?_⟩
    have eo:outK ps j = outK ps ps.length:=by rw [outK_all ps (by omega),outK_all ps (Nat.le_refl _)]
    rw [eo]
    exact ⟨by rw [← eo],d,hd,hl,rfl,by rw [← eo]⟩
  ·intro kk pins' S'
   by_cases hk:kk < ps.length
   ·have eu:ps[kk]? = some ps[kk]:=List.getElem?_eq_getElem hk
    have um:ps[kk] ∈ ps:=List.getElem_mem hk
    generalize hu':ps[kk] = u at eu um
    have uin:TIn C F u:=hps.get eu
    refine tris_cons (mid:=fun i σ H => ∃ p q,StP lo F a (outK ps (kk + 1)) p q i σ H) (tri_forG (tgi:=tSub C F (tVar 2) u) (gt:=gName 3) S' (fun sw Hw => inner u um sw Hw _ _ _ _ _ (pv 2) (by unfold CallEq; rfl)) hroom (fun sw Hw => pg_name (i:=3) nd rfl (Or.inl rfl)) ?_) tris_nil
    rintro i σ H ⟨u2,q,eu2,rfl,d,hd,hl,rfl,rfl⟩ ok
    obtain rfl:u2 = u:=Option.some.inj (eu2.symm.trans eu)
    refine ⟨_,rfl,rfl,cov_seen clo hd,fun lo' low => ⟨ok,?_⟩⟩
    let o:Nat → List TT:=fun j => addN (outK ps kk) ((subs u2).take j)
    have pre:∀ j,o j <+: subs (.mk a dx pl x ps):=fun j => by
     have p1:o j <+: outK ps (kk + 1):=by rw [outK_succ eu]; exact addN_takePre _ _ j
     refine (p1.trans (outK_pre ps _)).trans ?_
     rw [subs]; exact List.prefix_append _ _
    have pre1:∀ j t,o (j + 1) = o j ++ [t] → (subs (.mk a dx pl x ps))[(o j).length]? = some t:=fun j t e => by
     have:=pre (j + 1)
     rw [e] at this
     obtain ⟨r,hr⟩:=this
     rw [← hr,List.append_assoc,List.getElem?_append_right (Nat.le_refl _),Nat.sub_self]; rfl
    refine ⟨fun j i σ H => i = (o j).length ∧ ∃ q,σ = [some (.ref a),some (.ref d),some (.ref u2.adr),q] ∧ H = upd F d (.dK (seenD (o j))),
     fun j i σ H => i = (o j).length ∧ ∃ t,(subs u2)[j]? = some t ∧ σ = [some (.ref a),some (.ref d),some (.ref u2.adr),some (.ref t.adr)] ∧ H = upd F d (.dK (seenD (o j))),⟨rfl,q,rfl,rfl⟩,?_,?_⟩
    ·rintro j i σ H ⟨rfl,q,rfl,rfl⟩ ok
     refine ⟨cov_seen clo hd,fun b v e => ?_,fun ej => ⟨some (.ref u2.adr),q,?_⟩,fun y ey => ⟨ok,rfl,?_⟩⟩
     ·by_cases z:b = d
      ·subst z; exact low b (.dK (seenD (outK ps kk))) upd_same
      ·refine low b v ?_
       rw [upd_ne z] at e ⊢; exact e
     ·have eo:o j = outK ps (kk + 1):=by
       rw [outK_succ eu]
       show addN (outK ps kk) ((subs u2).take j) = _
       rw [List.take_of_length_le (by rw [ej]; simp [refs])]
      rw [eo]
      exact ⟨rfl,d,hd,hl,rfl,rfl⟩
     ·cases et:(subs u2)[j]? with
      | none => simp [refs,et] at ey
      | some t =>
       have:y = .ref t.adr:=by simp [refs,et] at ey; exact ey.symm
       subst this
       exact ⟨t,rfl,rfl,rfl⟩
    ·intro j pins2 gp2 S2
     by_cases hj:j < (subs u2).length
     ·have et:(subs u2)[j]? = some (subs u2)[j]:=List.getElem?_eq_getElem hj
      have tm:(subs u2)[j] ∈ subs u2:=List.getElem_mem hj
      generalize ht':(subs u2)[j] = t at et tm
      obtain ⟨dx2,fs2,e1,e2⟩:=(subs_in uin t tm).at
      have et2:upd F d (.dK (seenD (o j))) t.adr = some (.ins C dx2 fs2):=by rw [upd_ne (ne_of_none e1 hd)]; exact e1
      have hu2:∀ sw Hw,(GFr.X ⟨P,w,K,mg,base,N_sub,"Term.subterms",defScope s_sub,f,cd,A,outer,lo,Z⟩ sw Hw).A.units + 1 < cLine:=fun sw Hw => by
       show A.units + 3 + 1 < cLine
       omega
      refine tris_cons (mid:=fun i σ H => i = (o (j + 1)).length ∧ ∃ q,σ = [some (.ref a),some (.ref d),some (.ref u2.adr),q] ∧ H = upd F d (.dK (seenD (o (j + 1)))))
       (tri_if (t:=tB (tDNotIn (tFld K (tVar 3) "text") (tVar 1))) (preT:=fun i σ H => ((o j).any fun v => decide (v.txt = t.txt)) = false ∧ i = (o j).length ∧ σ = [some (.ref a),some (.ref d),some (.ref u2.adr),some (.ref t.adr)] ∧ H = upd F d (.dK (seenD (o j))))
        (preF:=fun i σ H => i = (o (j + 1)).length ∧ ∃ q,σ = [some (.ref a),some (.ref d),some (.ref u2.adr),q] ∧ H = upd F d (.dK (seenD (o (j + 1))))) S2 (fun sw Hw => pt_cmp (pc_dnotin (hu2 sw Hw) (pe_fld (pv 3) rfl) (pv 1))) ?_ ?_ tris_nil) tris_nil
      ·rintro i σ H ⟨rfl,t2,et3,rfl,rfl⟩ ok
       obtain rfl:t2 = t:=Option.some.inj (et3.symm.trans et)
       refine ⟨_,rfl,t2.adr,C,dx2,fs2,_,rfl,et2,k.cl,k.nt,e2,_,rfl,d,_,rfl,DGet.k (k:=Sum.inr t2.txt) upd_same,_,rfl,ok,?_⟩
       rw [seen_look]
       have ea:o (j + 1) = add1 (o j) t2:=addN_take et
       cases hany:(o j).any fun v => decide (v.txt = t2.txt) with
       | false =>
        exact (if_pos rfl).mpr ⟨rfl,rfl,rfl,rfl⟩
       | true =>
        have ea':o (j + 1) = o j:=by rw [ea]; unfold add1; rw [hany]; rfl
        rw [ea']
        exact (if_neg (by simp)).mpr ⟨rfl,_,rfl,rfl⟩
      ·refine tris_cons (mid:=fun i σ H => ((o j).any fun v => decide (v.txt = t.txt)) = false ∧ i = (o j).length ∧ σ = [some (.ref a),some (.ref d),some (.ref u2.adr),some (.ref t.adr)] ∧ H = upd F d (.dK (seenD (o j ++ [t]))))
        (tri_plain S2 (fun sw Hw => ps_dput (hu2 sw Hw) (td:=tVar 1) (ty:=tFld K (tVar 3) "text") (tv:=tC (.bl true)) (pv 1) (pe_fld (pv 3) rfl) pe_bl rfl) ?_) (tris_cons (tri_yield (te:=tVar 3) S2 (fun sw Hw => pv 3) ?_ ?_) tris_nil)
       ·rintro i σ H ⟨hany,rfl,rfl,rfl⟩ ok
        refine ⟨_,rfl,_,rfl,t.adr,C,dx2,fs2,_,rfl,et2,k.cl,k.nt,e2,d,_,rfl,DPut.k (k:=Sum.inr t.txt) upd_same ?_,?_,hany,rfl,rfl,?_⟩
        ·have:=(pre j).length_le
         have e:(seenD (o j)).length = (o j).length:=by simp [seenD]
         rw [e]
         exact Nat.lt_of_le_of_lt (Nat.le_trans this h1000) (by decide)
        ·rw [upd_upd,seen_put _ _ hany]
         exact okH_seen clo hd hl
        ·rw [upd_upd,seen_put _ _ hany]
       ·rintro i σ H ⟨hany,rfl,rfl,rfl⟩
        have ea:o (j + 1) = o j ++ [t]:=by
         have:o (j + 1) = add1 (o j) t:=addN_take et
         rw [this]; unfold add1; rw [hany]; rfl
        have:=(List.getElem?_eq_some_iff.mp (pre1 j t ea)).1
        simpa [vals] using this
       ·rintro i σ H ⟨hany,rfl,rfl,rfl⟩ ok
        have ea:o (j + 1) = o j ++ [t]:=by
         have:o (j + 1) = add1 (o j) t:=addN_take et
         rw [this]; unfold add1; rw [hany]; rfl
        refine ⟨_,rfl,ok,fun v rv => ?_,?_⟩
        ·obtain rfl:v = Value.ref t.adr:=rv
         simp [vals,pre1 j t ea]
        ·rw [ea]
         exact ⟨by simp,_,rfl,rfl⟩
     ·refine ⟨fun c fs K J gd lv fr kont n s₀ s Hw σ H i hr hn hp => ?_⟩
      obtain ⟨_,t,et,_⟩:=hp
      have:=(List.getElem?_eq_some_iff.mp et).1
      exact absurd this hj
   ·refine ⟨fun c fs K J gd lv fr kont n s₀ s Hw σ H i hr hn hp => ?_⟩
    obtain ⟨u,q,eu,_⟩:=hp
    have:=(List.getElem?_eq_some_iff.mp eu).1
    exact absurd this hk
  ·have eo:subs (.mk a dx pl x ps) = outK ps ps.length ++ [.mk a dx pl x ps]:=by rw [subs,outK_all ps (Nat.le_refl _)]
   refine tris_cons (mid:=fun i _ _ => i = (vals (subs (.mk a dx pl x ps))).length) (tri_yield (te:=tVar 0) S (fun sw Hw => pv 0) ?_ ?_) tris_nil
   ·rintro i σ H ⟨p,q,rfl,_⟩
    rw [eo]; simp [vals]
   ·rintro i σ H ⟨p,q,rfl,d,hd,hl,rfl,rfl⟩ ok
    refine ⟨_,rfl,ok,fun v rv => ?_,?_⟩
    ·obtain rfl:v = Value.ref a:=rv
     rw [eo]; simp [vals,TT.adr]
    ·rw [eo]; simp [vals]
 exact main
end
end
end GG
namespace GG
open PySem PySem.Spec PyProof.Rows L2 GenW GB
section
theorem far_inv {X:Cx} {pins:List (Addr × Obj)} {σ:L2.St} {H:Hp} {s:Shared} (I:Inv X pins σ H s):Far X pins H s.heap.objs.size where
 h:=fun b u e => I.hok.lt e
 p:=fun p hp => Heap.lt_size (I.pin p hp).1
 l:=I.lt
 c:=fun x c e => by
  obtain ⟨v,q⟩:=I.cell x c e
  exact q.lt
 z:=I.sz
theorem vals_refs:∀ l:List TT,Vals (refs l) (vals l)
 | [] => .nil
 | t :: ts => .cons rfl (vals_refs ts)
theorem TIn.meth {C:Addr} {F:Hp}:∀ {t:TT},TIn C F t → ∃ dx fs,F t.adr = some (.ins C dx fs) ∧ fs.lookup ("subterms" : Str) = none
 | .mk a dx pl x ps,h => by
  rw [TIn] at h
  obtain ⟨⟨fs,h1,_,_,_,h4,_⟩,_⟩:=h
  exact ⟨dx,fs,h1,h4⟩
mutual
def Sml:TT → Prop
 | .mk a dx pl x ps => (subs (.mk a dx pl x ps)).length ≤ 30000 ∧ Smls ps
def Smls:List TT → Prop
 | [] => True
 | t :: ts => Sml t ∧ Smls ts
end
theorem Smls.mem:∀ {ts:List TT} {t:TT},Smls ts → t ∈ ts → Sml t
 | u :: us,t,h,m => by
  rw [Smls] at h
  rcases List.mem_cons.mp m with rfl | m
  ·exact h.1
  ·exact Smls.mem h.2 m
theorem TIns.mem {C:Addr} {F:Hp}:∀ {ts:List TT} {t:TT},TIns C F ts → t ∈ ts → TIn C F t
 | u :: us,t,h,m => by
  rw [TIns] at h
  rcases List.mem_cons.mp m with rfl | m
  ·exact h.1
  ·exact TIns.mem h.2 m
theorem hts_mem:∀ {ts:List TT} {t:TT},t ∈ ts → ht t ≤ hts ts
 | u :: us,t,m => by
  rw [hts]
  rcases List.mem_cons.mp m with rfl | m
  ·omega
  ·have:=hts_mem m; omega
theorem sub_gen {C:Addr} {F:Hp} (clo:Clo F):∀ (h:Nat) (t:TT),ht t ≤ h → TIn C F t → Sml t → ∀ (X:Cx),Mth X.K C "subterms" "Term.subterms" s_sub → SubK X.K C → Room 1 X.A → ∀ (o:Expr) (te:TE) (apos pos':Pos) (pl:Sem Bool),PE X o te → CallEq X.env o apos pos' pl →
  PGi X (3 * h + 3) (.Call (.Attribute o "subterms" apos) [] [] pos') (tSub C F te t):=by
 intro h
 induction h with
 | zero =>
  intro t hh
  cases t with
  | mk a dx pl x ps => rw [ht] at hh; omega
 | succ h ih =>
  intro t hh tin hlen X mth k hr o te apos pos' pl he hev
  obtain ⟨f,fd,Fd,hat,hfn⟩:=mth.ex
  have kp:=Fd.kp
  have bnd:Binds X.K fd ["self"] []:=Fd.binds (fun _ _ _ _ _ _ us hl => match us,hl with | [_],_ => rfl)
  obtain ⟨oc,od,kV,doc,pm,an,cdv,ct,osl,rfl,lk,hcg⟩:=Fd.ex
  refine ⟨fun pins s σ H Kt I hq => ?_⟩
  refine PySem.W.methodCall_KW (pl:=pl) (wpAny_gsz (n:=s.gens.size) (Nat.le_refl _) (wpAny_mono (he.run pins s σ H _ I hq) (fun u s1 ⟨v,H1,I1,rv,ev,cov,kt⟩ hsz => ?_) fun _ _ z _ => z)) hev
  subst ev
  obtain rfl:u = Value.ref t.adr:=rv
  obtain ⟨dx,fs,e1,e2⟩:=tin.meth
  refine getmeth_ok I1 (cov.sub _ _ e1) k.cl ⟨hat,hfn,kp⟩ e2 ?_
  refine PySem.W.callWith_K0 (first:=[.ref t.adr]) I1.kIn kp (wpAny_call (codeAny_mono (gen_made (N:=N_sub) (ps:=["self"]) (us:=[.ref t.adr]) (vs:=[.ref t.adr]) (L:=refs (subs t)) (vs0:=vals (subs t)) (Kt:=Kt) (k:=3 * (h + 1) + 3) I1 lk hcg sc_sub cf_sub nc_sub hr (bnd s1 [.ref t.adr] I1.kIn rfl) (.cons rfl .nil) rfl cov (far_inv I1) (vals_refs _) (kt _ fun b u e => I1.hok.lt e) ?_) fun r s' hq' => ?_))
  ·intro A0 gi aG go Z hr0 S
   cases t with
   | mk a dx pl x ps =>
    have tin':=tin
    rw [TIn] at tin'
    have sm:=hlen
    rw [Sml] at sm
    refine tri_body S k a dx pl x ps tin clo (by have:=hr0.un; show A0.units + 1 + 100 < cLine; omega) sm.1 (fun p hp sw Hw o te apos pos' pl he' hev' => ?_) (((Room.in1 (k:=3 * h + 5) (hr0.mono (by omega))).mono (by omega:3 * h + 4 ≤ 3 * h + 5)).deeper _)
    refine ih p ?_ (tin'.2.mem hp) (sm.2.mem hp) (GFr.X ⟨X.prog,X.w,X.K,X.mg,X.base,N_sub,"Term.subterms",defScope s_sub,f,cdv,A0.in1,X.stack,s1.heap.objs.size,Z⟩ sw Hw) mth k ?_ o te apos pos' pl he' hev'
    ·have:=hts_mem hp
     rw [ht] at hh
     omega
    ·exact ((Room.in1 (k:=3 * h + 5) (hr0.mono (by omega))).mono (by omega:2 ≤ 3 * h + 5)).deeper _
  ·match r,hq' with
   | .ok (.ret u),hq' =>
    obtain ⟨c,vs,L,H2,a1,a2,a3,a4,a6,a7,a8,a9,a10,a11,a12,a13⟩:=hq'
    exact ⟨c,vs,L,H2,a1,a2,a3,a4,a6,a7,a8,a9,a10,a11,Nat.le_trans hsz a12,a13⟩
end
end GG
namespace GG
open PySem PySem.Spec PyProof.Rows L2 GenW
end GG
namespace GG
open PySem PySem.Spec PyProof.Rows L2
section
inductive Tx where
 | mk (x:Str) (d:GD.D) (ps:List Tx)
def Tx.txt:Tx → Str
 | .mk x _ _ => x
def Tx.d:Tx → GD.D
 | .mk _ d _ => d
mutual
def WfT (C:Addr):Tx → Prop
 | .mk x d ps => (∃ fs,d = .obj C fs ∧ fs.lookup ("text" : Str) = some (.str x) ∧ fs.lookup ("parts" : Str) = some (.lst (Tx.ds ps)) ∧ fs.lookup ("subterms" : Str) = none) ∧ WfTs C ps
def WfTs (C:Addr):List Tx → Prop
 | [] => True
 | t :: ts => WfT C t ∧ WfTs C ts
def Tx.ds:List Tx → List GD.D
 | [] => []
 | t :: ts => t.d :: Tx.ds ts
end
def addX1 (o:List Tx) (t:Tx):List Tx:=if o.any (fun u => decide (u.txt = t.txt)) then o else o ++ [t]
def addX (o l:List Tx):List Tx:=l.foldl addX1 o
mutual
def subX:Tx → List Tx
 | .mk x d ps => (subXs ps).foldl addX [] ++ [.mk x d ps]
def subXs:List Tx → List (List Tx)
 | [] => []
 | t :: ts => subX t :: subXs ts
end
section
variable {K:PySem.W.Frag} {F:Hp} {R:List Addr} {C:Addr}
mutual
def Lay (K:PySem.W.Frag) (F:Hp) (R:List Addr):TT → Tx → Prop
 | .mk a _ _ x ps,.mk y d us => x = y ∧ GD.Rep K F R (.ref a) d ∧ Lays K F R ps us
def Lays (K:PySem.W.Frag) (F:Hp) (R:List Addr):List TT → List Tx → Prop
 | [],[] => True
 | t :: ts,u :: us => Lay K F R t u ∧ Lays K F R ts us
 | _,_ => False
end
theorem Lay.txt:∀ {t:TT} {u:Tx},Lay K F R t u → t.txt = u.txt
 | .mk _ _ _ _ _,.mk _ _ _,h => by rw [Lay] at h; exact h.1
theorem Lay.rep:∀ {t:TT} {u:Tx},Lay K F R t u → GD.Rep K F R (.ref t.adr) u.d
 | .mk _ _ _ _ _,.mk _ _ _,h => by rw [Lay] at h; exact h.2.1
inductive LayL (K:PySem.W.Frag) (F:Hp) (R:List Addr):List TT → List Tx → Prop
 | nil:LayL K F R [] []
 | cons {t u ts us}:Lay K F R t u → LayL K F R ts us → LayL K F R (t :: ts) (u :: us)
theorem LayL.append:∀ {a b:List TT} {c d:List Tx},LayL K F R a c → LayL K F R b d → LayL K F R (a ++ b) (c ++ d)
 | _,_,_,_,.nil,h => h
 | _,_,_,_,.cons x y,h => .cons x (LayL.append y h)
theorem LayL.any:∀ {a:List TT} {c:List Tx} (x:Str),LayL K F R a c → (a.any fun u => decide (u.txt = x)) = c.any fun u => decide (u.txt = x)
 | _,_,_,.nil => rfl
 | _,_,x,.cons h t => by rw [List.any_cons,List.any_cons,h.txt,LayL.any x t]
theorem LayL.add1 {o:List TT} {p:List Tx} {t:TT} {u:Tx} (h:LayL K F R o p) (q:Lay K F R t u):LayL K F R (add1 o t) (addX1 p u):=by
 unfold GG.add1 addX1
 rw [h.any t.txt,q.txt]
 split
 ·exact h
 ·exact h.append (.cons q .nil)
theorem LayL.addN:∀ {l:List TT} {m:List Tx} {o:List TT} {p:List Tx},LayL K F R o p → LayL K F R l m → LayL K F R (addN o l) (addX p m)
 | _,_,_,_,h,.nil => h
 | _,_,_,_,h,.cons q t => by
  have z:=LayL.addN (h.add1 q) t
  exact z
mutual
theorem Lay.subs:∀ {t:TT} {u:Tx},Lay K F R t u → LayL K F R (subs t) (subX u)
 | .mk a dx pl x ps,.mk y d us,h => by
  have h0:=h
  rw [Lay] at h
  rw [GG.subs,subX]
  exact (Lays.fold h.2.2 .nil).append (.cons h0 .nil)
theorem Lays.fold:∀ {ts:List TT} {us:List Tx} {o:List TT} {p:List Tx},Lays K F R ts us → LayL K F R o p → LayL K F R ((subsAll ts).foldl GG.addN o) ((subXs us).foldl addX p)
 | [],[],_,_,_,q => q
 | t :: ts,u :: us,_,_,h,q => by
  rw [Lays] at h
  rw [subsAll,subXs]
  exact Lays.fold h.2 (q.addN (Lay.subs h.1))
 | [],_ :: _,_,_,h,_ => by simp [Lays] at h
 | _ :: _,[],_,_,h,_ => by simp [Lays] at h
end
theorem LayL.length:∀ {ts:List TT} {us:List Tx},LayL K F R ts us → ts.length = us.length
 | _,_,.nil => rfl
 | _,_,.cons _ t => by simp [LayL.length t]
mutual
theorem lay_of {H:Hp} (sm:Same F H) (own:∀ a C dx fs,H a = some (.ins C dx fs) → H dx = some (.own a)):∀ (u:Tx) (v:V),WfT C u → GD.Rep K F R v u.d → ∃ t:TT,v = .ref t.adr ∧ TIn C H t ∧ Lay K F R t u
 | .mk x d us,v,w,r => by
  rw [WfT] at w
  obtain ⟨⟨fs,rfl,h1,h2,h3⟩,ws⟩:=w
  have r0:=r
  cases r with
  | @obj a _ dx xs _ e rf =>
   obtain ⟨vt,l1,rt⟩:=rf.look h1
   obtain ⟨vp,l2,rp⟩:=rf.look h2
   cases rt
   cases rp with
   | @lst pl vs _ e2 ra =>
    obtain ⟨ts,rfl,hi,hl⟩:=lays_of sm own us vs ws ra
    refine ⟨.mk a dx pl x ts,rfl,?_,?_⟩
    ·rw [TIn]
     exact ⟨⟨xs,sm _ _ e,own _ _ _ _ (sm _ _ e),l1,l2,rf.lookN h3,sm _ _ e2⟩,hi⟩
    ·rw [Lay]
     exact ⟨rfl,r0,hl⟩
theorem lays_of {H:Hp} (sm:Same F H) (own:∀ a C dx fs,H a = some (.ins C dx fs) → H dx = some (.own a)):∀ (us:List Tx) (vs:List V),WfTs C us → GD.RepAll K F R vs (Tx.ds us) → ∃ ts:List TT,vs = refs ts ∧ TIns C H ts ∧ Lays K F R ts us
 | [],vs,_,r => by
  cases r
  exact ⟨[],rfl,by rw [TIns]; trivial,by rw [Lays]; trivial⟩
 | u :: us,vs,w,r => by
  rw [WfTs] at w
  rw [Tx.ds] at r
  cases r with
  | cons a b =>
   obtain ⟨t,rfl,h1,h2⟩:=lay_of sm own u _ w.1 a
   obtain ⟨ts,rfl,h3,h4⟩:=lays_of sm own us _ w.2 b
   exact ⟨t :: ts,rfl,by rw [TIns]; exact ⟨h1,h3⟩,by rw [Lays]; exact ⟨h2,h4⟩⟩
end
end
end
end GG
namespace GG
open PySem PySem.Spec PyProof.Rows L2 GenW GB
section
mutual
def hX:Tx → Nat
 | .mk _ _ ps => hXs ps + 1
def hXs:List Tx → Nat
 | [] => 0
 | t :: ts => max (hX t) (hXs ts)
end
mutual
def SmlX:Tx → Prop
 | .mk x d ps => (subX (.mk x d ps)).length ≤ 30000 ∧ SmlXs ps
def SmlXs:List Tx → Prop
 | [] => True
 | t :: ts => SmlX t ∧ SmlXs ts
end
section
variable {K:PySem.W.Frag} {F:Hp} {R:List Addr} {C:Addr}
mutual
theorem Lay.ht:∀ {t:TT} {u:Tx},Lay K F R t u → GG.ht t = hX u
 | .mk _ _ _ _ ps,.mk _ _ us,h => by
  rw [Lay] at h
  rw [GG.ht,hX,Lays.ht h.2.2]
theorem Lays.ht:∀ {ts:List TT} {us:List Tx},Lays K F R ts us → hts ts = hXs us
 | [],[],_ => rfl
 | t :: ts,u :: us,h => by
  rw [Lays] at h
  rw [hts,hXs,Lay.ht h.1,Lays.ht h.2]
 | [],_ :: _,h => by simp [Lays] at h
 | _ :: _,[],h => by simp [Lays] at h
end
mutual
theorem Lay.sml:∀ {t:TT} {u:Tx},Lay K F R t u → SmlX u → Sml t
 | .mk a dx pl x ps,.mk y d us,h,s => by
  have hl:=h.subs.length
  rw [Lay] at h
  rw [SmlX] at s
  rw [Sml]
  exact ⟨by rw [hl]; exact s.1,Lays.sml h.2.2 s.2⟩
theorem Lays.sml:∀ {ts:List TT} {us:List Tx},Lays K F R ts us → SmlXs us → Smls ts
 | [],[],_,_ => by rw [Smls]; trivial
 | t :: ts,u :: us,h,s => by
  rw [Lays] at h
  rw [SmlXs] at s
  rw [Smls]
  exact ⟨Lay.sml h.1 s.1,Lays.sml h.2 s.2⟩
 | [],_ :: _,h,_ => by simp [Lays] at h
 | _ :: _,[],h,_ => by simp [Lays] at h
end
end
def tSubX (K:PySem.W.Frag) (C:Addr) (h:Nat) (te:TE):TGi:=fun σ H Kt => te σ H fun x H1 => ∃ (u:Tx) (F:Hp) (R:List Addr),WfT C u ∧ Same F H1 ∧ GD.Rep K F R x u.d ∧ hX u ≤ h ∧ SmlX u ∧
 ∀ (t:TT) (lo:Nat),Lay K F R t u → TIn C H1 t → (∀ b v,H1 b = some v → b < lo) → Kt (refs (subs t)) H1 (cutT H1 t) lo
theorem own_of {P:Program} {w:World} {H:Hp} {h:Heap} (ok:HOk P w H h) (a C dx:Addr) (fs:List (Str × V)) (e:H a = some (.ins C dx fs)):H dx = some (.own a):=(show ObjOk P w H h a (.ins C dx fs) from ok a _ e).1
theorem sub_genX {C:Addr} {X:Cx} (mth:Mth X.K C "subterms" "Term.subterms" s_sub) (k:SubK X.K C) (hr:Room 1 X.A) {h:Nat} {o:Expr} {te:TE} {apos pos':Pos} {pl:Sem Bool} (he:PE X o te) (hev:CallEq X.env o apos pos' pl) :
  PGi X (3 * (h + 1) + 3) (.Call (.Attribute o "subterms" apos) [] [] pos') (tSubX X.K C h te):=by
 obtain ⟨f,fd,Fd,hat,hfn⟩:=mth.ex
 have kp:=Fd.kp
 have bnd:Binds X.K fd ["self"] []:=Fd.binds (fun _ _ _ _ _ _ us hl => match us,hl with | [_],_ => rfl)
 obtain ⟨oc,od,kV,doc,pm,an,cdv,ct,osl,rfl,lk,hcg⟩:=Fd.ex
 refine ⟨fun pins s σ H Kt I hq => ?_⟩
 refine PySem.W.methodCall_KW (pl:=pl) (wpAny_gsz (n:=s.gens.size) (Nat.le_refl _) (wpAny_mono (he.run pins s σ H _ I hq) (fun u s1 ⟨v,H1,I1,rv,ux,F0,R0,wf,sm,rep,hh,sx,kt⟩ hsz => ?_) fun _ _ z _ => z)) hev
 obtain ⟨t,rfl,tin0,lay⟩:=lay_of sm (own_of I1.hok) ux v wf rep
 obtain rfl:u = Value.ref t.adr:=rv
 have tin:=tin_cut tin0
 have cov:=cov_cut tin0
 have hlen:=lay.sml sx
 have hht:ht t ≤ h:=by rw [lay.ht]; exact hh
 obtain ⟨dx,fs,e1,e2⟩:=tin0.meth
 refine getmeth_ok I1 e1 k.cl ⟨hat,hfn,kp⟩ e2 ?_
 refine PySem.W.callWith_K0 (first:=[.ref t.adr]) I1.kIn kp (wpAny_call (codeAny_mono (gen_made (N:=N_sub) (ps:=["self"]) (us:=[.ref t.adr]) (vs:=[.ref t.adr]) (L:=refs (subs t)) (vs0:=vals (subs t)) (Kt:=Kt) (k:=3 * (h + 1) + 3) I1 lk hcg sc_sub cf_sub nc_sub hr (bnd s1 [.ref t.adr] I1.kIn rfl) (.cons rfl .nil) rfl cov (far_inv I1) (vals_refs _) (kt t _ lay tin0 fun b u e => I1.hok.lt e) ?_) fun r s' hq' => ?_))
 ·intro A0 gi aG go Z hr0 S
  cases t with
  | mk a dx pl x ps =>
   have tin':=tin
   rw [TIn] at tin'
   have sm:=hlen
   rw [Sml] at sm
   refine tri_body S k a dx pl x ps tin (clo_cut tin0) (by have:=hr0.un; show A0.units + 1 + 100 < cLine; omega) sm.1 (fun p hp sw Hw o te apos pos' pl he' hev' => ?_) (((Room.in1 (k:=3 * h + 5) (hr0.mono (by omega))).mono (by omega:3 * h + 4 ≤ 3 * h + 5)).deeper _)
   refine sub_gen (clo_cut tin0) h p ?_ (tin'.2.mem hp) (sm.2.mem hp) (GFr.X ⟨X.prog,X.w,X.K,X.mg,X.base,N_sub,"Term.subterms",defScope s_sub,f,cdv,A0.in1,X.stack,s1.heap.objs.size,Z⟩ sw Hw) mth k ?_ o te apos pos' pl he' hev'
   ·have:=hts_mem hp
    rw [ht] at hht
    omega
   ·exact ((Room.in1 (k:=3 * h + 5) (hr0.mono (by omega))).mono (by omega:2 ≤ 3 * h + 5)).deeper _
 ·match r,hq' with
  | .ok (.ret u),hq' =>
   obtain ⟨c,vs,L,H2,a1,a2,a3,a4,a6,a7,a8,a9,a10,a11,a12,a13⟩:=hq'
   exact ⟨c,vs,L,H2,a1,a2,a3,a4,a6,a7,a8,a9,a10,a11,Nat.le_trans hsz a12,a13⟩
end
end GG
namespace GU
open PySem PySem.Spec PyProof.Rows L2 PySem.Froz
section
def add1 (l:List Str) (k:Str):List Str:=if k ∈ l then l else k :: l
def addN (l xs:List Str):List Str:=xs.foldl add1 l
theorem add1_nd {l:List Str} {k:Str} (h:l.Nodup):(add1 l k).Nodup:=by
 unfold add1
 split
 ·exact h
 ·exact List.nodup_cons.mpr ⟨by assumption,h⟩
theorem add1_mem {l:List Str} {k j:Str}:j ∈ add1 l k ↔ j ∈ l ∨ j = k:=by
 unfold add1
 split
 ·rename_i m
  exact ⟨.inl,fun h => h.elim id fun e => e ▸ m⟩
 ·rw [List.mem_cons]
  exact ⟨fun h => h.symm,fun h => h.symm⟩
theorem add1_len {l:List Str} {k:Str}:(add1 l k).length ≤ l.length + 1:=by
 unfold add1
 split
 ·exact Nat.le_succ _
 ·exact Nat.le_refl _
theorem addN_nd:∀ {xs l:List Str},l.Nodup → (addN l xs).Nodup
 | [],_,h => h
 | k :: xs,_,h => addN_nd (xs:=xs) (add1_nd h)
theorem addN_mem:∀ {xs l:List Str} {j:Str},j ∈ addN l xs ↔ j ∈ l ∨ j ∈ xs
 | [],_,_ => by simp [addN]
 | k :: xs,l,j => by
  show j ∈ addN (add1 l k) xs ↔ _
  rw [addN_mem,add1_mem,List.mem_cons,or_assoc]
theorem addN_len:∀ {xs l:List Str},(addN l xs).length ≤ l.length + xs.length
 | [],_ => Nat.le_refl _
 | k :: xs,l => by
  have h1:=addN_len (xs:=xs) (l:=add1 l k)
  have h2:=add1_len (l:=l) (k:=k)
  show (addN (add1 l k) xs).length ≤ _
  simp only [List.length_cons]
  omega
structure SetS (P:Program) (w:World) (h:Heap) (a:Addr) (l:List Str):Prop where
 ex:∃ D:SD,h.get? a = some (sObj "set" D) ∧ TxOk P w D l ∧ Ris D.2.2.place.toList ∧ (w.params.followText "set-order" = true ∨ D.2.2.led = true)
 nd:l.Nodup
 few:l.length < scanBound
section
variable {P:Program} {w:World} {h h':Heap} {a:Addr} {l:List Str}
theorem SetS.at (R:SetS P w h a l) (k:∀ o,h.get? a = some o → h'.get? a = some o):SetS P w h' a l:=by
 obtain ⟨⟨D,ho,r⟩,n,f⟩:=R
 exact ⟨⟨D,k _ ho,r⟩,n,f⟩
theorem SetS.lt (R:SetS P w h a l):a < h.objs.size:=by
 obtain ⟨⟨D,ho,_⟩,_⟩:=R
 exact Heap.lt_size ho
theorem SetS.look (R:SetS P w h a l):∃ D:SD,h.get? a = some (sObj "set" D):=by
 obtain ⟨⟨D,ho,_⟩,_⟩:=R
 exact ⟨D,ho⟩
theorem tail_ris {ep:Nat} {es1:Array (Int × Value)} {t2:SetTable} {b:Bool} (r:Ris t2.place.toList):Ris (tailTx ep es1 t2 b).2.2.place.toList:=by
 unfold tailTx
 split
 ·exact relayAll_ris t2 es1 _
 ·exact r
theorem tail_led {ep:Nat} {es1:Array (Int × Value)} {t2:SetTable} {b:Bool}:(tailTx ep es1 t2 b).2.2.led = t2.led:=by
 unfold tailTx
 split
 ·exact relayAll_led t2 es1 _
 ·rfl
theorem addTx_ris {n:Int} {v:Value} {D:SD} (r:Ris D.2.2.place.toList):Ris (addTx n v D).2.2.place.toList:=by
 have q:=layNew_ris D.2.2 D.1 n v r
 unfold addTx
 refine tail_ris ?_
 split <;> exact q
theorem addTx_led {n:Int} {v:Value} {D:SD}:(addTx n v D).2.2.led = D.2.2.led:=by
 have q:=layNew_led D.2.2 D.1 n v
 unfold addTx
 rw [tail_led]
 split <;> exact q
theorem freshS {led:Bool} (hl:w.params.followText "set-order" = true ∨ led = true) (ho:h.get? a = some { cls := .type "set",dict:=none,data := .set #[] 0 (.fresh 0 0 led) }):SetS P w h a [] :=
 ⟨⟨(#[],0,.fresh 0 0 led),ho,TxOk.nil (by rfl),List.Pairwise.nil,hl⟩,List.nodup_nil,by decide⟩
end
section
variable {P:Program} {w:World} {A:Around} {E:Value → Shared → Prop} {s:Shared} {a:Addr} {l:List Str} {k:Str} {u:Tok}
theorem again_x {D:SD} {Q:Bool → Shared → Prop} (ho:s.heap.get? a = some (sObj "set" D)) (F:TxOk P w D l) (hk:k ∈ l) (hb:l.length < scanBound) (h:Q false s):wpAny (model P w) A (setAddHashed a (.str k u) (hashStr w k)) Q E s:=by
 obtain ⟨es,ep,t⟩:=D
 have hd:(sObj "set" (es,ep,t)).data = .set es ep t:=rfl
 have el:ElemsOf (PySem.strKind P w) es.toList:=F.el
 have hz:es.size < scanBound:=by rw [show es.size = l.length from F.sz]; exact hb
 have is:(PySem.strKind P w).is k (.str k u) = true:=is_str k u
 obtain ⟨e,he,q⟩:=(F.mem k).mp hk
 obtain ⟨j,hj⟩:∃ j,List.findIdx? (fun e => (PySem.strKind P w).is k e.2) es.toList = some j:=by
  cases hr:List.findIdx? (fun e => (PySem.strKind P w).is k e.2) es.toList with
  | some j => exact ⟨j,rfl⟩
  | none =>
   have c:=List.findIdx?_eq_none_iff.mp hr e he
   rw [q] at c
   cases c
 unfold setAddHashed setAddHashedIn
 refine wpAny_holding (wpAny_bind (wpAny_setState_of ho hd F.fit ?_))
 dsimp only
 rw [byScan_of rfl hz el]
 simp only [↓reduceIte]
 unfold setAddByScan
 refine wpAny_bind (wpAny_bind (wpAny_rule (wpAny_bind (wpAny_setScan_of (knd:=PySem.strKind P w) (k:=k) is ho hd F.fit el ?_))))
 rw [hj]
 dsimp only
 exact wpAny_pure (wpAny_pure h)
theorem addS_hashed {Q:Bool → Shared → Prop} (R:SetS P w s.heap a l) (room:l.length + 1 < scanBound) (hQ:∀ b h',(∀ d,d ≠ a → h'.get? d = s.heap.get? d) → h'.objs.size = s.heap.objs.size → SetS P w h' a (add1 l k) → Q b { s with heap:=h' }) :
  wpAny (model P w) A (setAddHashed a (.str k u) (hashStr w k)) Q E s:=by
 obtain ⟨⟨D,ho,F,ri,le⟩,nd,few⟩:=R
 by_cases hk:k ∈ l
 ·refine again_x ho F hk few ?_
  have:=hQ false s.heap (fun _ _ => rfl) rfl (by unfold add1; rw [if_pos hk]; exact ⟨⟨D,ho,F,ri,le⟩,nd,few⟩)
  exact this
 ·refine add_x ho F hk room (hQ true _ (fun d hd => Heap.get?_update_other _ _ (Ne.symm hd)) (Heap.size_after_update _ _ _) ?_)
  unfold add1
  rw [if_neg hk]
  exact ⟨⟨_,get_upd _ ho rfl,add_ok u F,addTx_ris ri,le.imp id fun z => by rw [addTx_led]; exact z⟩,List.nodup_cons.mpr ⟨hk,nd⟩,room⟩
theorem addS {Q:Value → Shared → Prop} (R:SetS P w s.heap a l) (room:l.length + 1 < scanBound) (hQ:∀ h',(∀ d,d ≠ a → h'.get? d = s.heap.get? d) → h'.objs.size = s.heap.objs.size → SetS P w h' a (add1 l k) → Q .none { s with heap:=h',toks:=s.toks + 1 }) :
  wpAny (model P w) A (call (.builtin "set.add") [.ref a,.str k u]) Q E s:=by
 obtain ⟨D,ho⟩:=R.look
 refine wpAny_call_entry F.slot_set_add ⟨_,ho,rfl⟩ F.entry_set_add ?_ (F.args_set_add_2 _ _)
 unfold Builtin.«set.add» Builtin.Frozenset.oneOther
 simp only [List.isEmpty_nil,bind_assoc]
 unfold Builtin.Frozenset.addrOf setAdd
 refine wpAny_bind (wpAny_pure ?_)
 try dsimp only
 refine wpAny_bind (wpAny_pure ?_)
 try dsimp only
 refine wpAny_bind (wpAny_holding (wpAny_bind ((PySem.strKind P w).pyHash (k:=k) (is_str k u) ?_)))
 refine addS_hashed (s:={ s with toks:=s.toks + 1 }) R room fun b h' sb sz r => ?_
 show wpAny _ _ (ret Value.none) _ _ _
 exact wpAny_pure ⟨_,rfl,hQ h' sb sz r⟩
end
theorem strs_of:∀ (vs:List Value),(∀ v ∈ vs,∃ k t,v = Value.str k t) → ∃ xs,StrsAre vs xs
 | [],_ => ⟨[],.nil⟩
 | v :: vs,h => by
  obtain ⟨k,t,rfl⟩:=h v List.mem_cons_self
  obtain ⟨xs,e⟩:=strs_of vs fun u hu => h u (List.mem_cons_of_mem _ hu)
  exact ⟨k :: xs,.cons k t e⟩
theorem strs_mem:∀ {vs:List Value} {xs:List Str},StrsAre vs xs → ∀ k,k ∈ xs ↔ ∃ t,Value.str k t ∈ vs
 | _,_,.nil,k => by simp
 | _,_,.cons j t e,k => by
  rw [List.mem_cons,strs_mem e k]
  constructor
  ·rintro (z | ⟨t',m⟩)
   ·exact ⟨t,by rw [z]; exact List.mem_cons_self⟩
   ·exact ⟨t',List.mem_cons_of_mem _ m⟩
  ·rintro ⟨t',m⟩
   rcases List.mem_cons.mp m with z | z
   ·injection z with z1 z2
    exact .inl z1
   ·exact .inr ⟨t',z⟩
theorem perm_of_sub {α:Type} [DecidableEq α]:∀ {l m:List α},l.Nodup → (∀ x ∈ l,x ∈ m) → l.length = m.length → m.Perm l
 | [],m,_,_,e => by
  rw [List.eq_nil_of_length_eq_zero e.symm]
 | x :: l,m,n,h,e => by
  obtain ⟨n1,n2⟩:=List.nodup_cons.mp n
  have hx:=h x List.mem_cons_self
  have p:=List.perm_cons_erase hx
  have le:(m.erase x).length = m.length - 1:=List.length_erase_of_mem hx
  refine p.trans (List.Perm.cons x (perm_of_sub n2 (fun y hy => ?_) (by rw [le,← e]; simp)))
  have hy':=h y (List.mem_cons_of_mem _ hy)
  rcases List.mem_cons.mp (p.mem_iff.mp hy') with z | z
  ·exact absurd (z ▸ hy) n1
  ·exact z
section
variable {P:Program} {w:World} {A:Around} {E:Value → Shared → Prop} {s:Shared} {a:Addr} {l:List Str}
theorem sortedSet {Q:Value → Shared → Prop} (R:SetS P w s.heap a l) (hh:A.handled = none)
  (hQ:∀ s' p (out:Array Value) (c:Nat) (ys:List Str),(∀ b o,s.heap.get? b = some o → s'.heap.get? b = some o) → s'.gens = s.gens → s'.os = s.os → s.heap.objs.size ≤ p → s'.heap.get? p = some (seqObj "list" out c) → StrsAre out.toList ys → ys.Perm l → sortedS ys = true → Q (.ref p) s') :
  wpAny (model P w) A (call (.builtin "sorted") [.ref a]) Q E s:=by
 obtain ⟨⟨⟨es,ep,t⟩,ho,F,ri,le⟩,nd,few⟩:=R
 have hsz:es.size = l.length:=F.sz
 have hz:es.size < scanBound:=by rw [hsz]; exact few
 refine Calls.call_function_entry kind_sorted plain_sorted entry_sorted (args_sorted1 _) ?_
 unfold Builtin.«sorted»
 refine wpAny_bind (m:=checkCount "sorted" 1 1 _) (wpAny_pure ?_)
 refine wpAny_bind (collect_set (A:=A.in1) hh (es:=es) (ep:=ep) (t:=t) ⟨_,ho,rfl,rfl⟩ F.fit hz ri le fun s1 vs k1 z1 g1 o1 pm => ?_)
 have hvl:vs.length = l.length:=by rw [pm.length_eq,List.length_map,Array.length_toList]; exact hsz
 have kind:∀ e ∈ es.toList,∃ k tk,e.2 = Value.str k tk:=fun e he => by
  obtain ⟨⟨k,h1,_⟩,_⟩:=F.el e he
  exact ⟨k,Value.isStrOf_shape h1⟩
 obtain ⟨xs,hS⟩:=strs_of vs fun v hv => by
  obtain ⟨e,he,q⟩:=List.mem_map.mp (pm.mem_iff.mp hv)
  rw [← q]
  exact kind e he
 have px:xs.Perm l:=by
  refine perm_of_sub nd (fun k hk => (strs_mem hS k).mpr ?_) (by rw [← hvl]; exact StrsAre.len_eq hS)
  obtain ⟨e,he,q⟩:=(F.mem k).mp hk
  obtain ⟨t,e2⟩:=Value.isStrOf_shape q
  exact ⟨t,pm.mem_iff.mpr (List.mem_map.mpr ⟨e,he,e2⟩)⟩
 have hL:vs.length ≤ sizeLine:=by rw [hvl]; exact fits_of_scanBound few
 refine wpAny_bind (wpAny_newList ?_ hL)
 have hoL:(s1.heap.push (seqObj "list" vs.toArray 0)).get? s1.heap.objs.size = some (seqObj "list" vs.toArray 0):=Heap.get?_push_size _ rfl
 refine wpAny_bind (wpAny_holding (wpAny_call_entry slot_list_sort ⟨_,hoL,rfl⟩ entry_list_sort (list_sort_treeKAny strKind_oneLt hoL hS.keysOf (fun v₁ v₂ rest e => keyKind_strs (by rw [← e]; exact hS)) hL fun st' hp hs => ⟨_,rfl,?_⟩) (args_list_sort _)))
 obtain ⟨ys,h1,h2,h3⟩:=sorted_out_str hS hp hs
 obtain ⟨c,hc⟩:=sortedHeap_at (vs:=vs) (out:=(arrOf st').map (·.2)) hoL
 refine wpAny_pure ⟨_,rfl,hQ _ s1.heap.objs.size _ c ys (fun b u e => ?_) g1 o1 z1 hc h1 (h2.trans px) h3⟩
 have q:=k1 b u e
 have lt:=Heap.lt_size q
 exact (sortedHeap_old (Nat.ne_of_lt lt) (by rw [size_push']; exact Nat.lt_succ_of_lt lt)).trans (Heap.get?_push_of_some _ q)
end
end
end GU
namespace GU
open PySem PySem.Spec PyProof.Rows L2 PySem.Froz
section
section
variable {P:Program} {w:World} {A:Around} {E:Value → Shared → Prop} {s:Shared}
theorem fill {I:Addr} {fp wr:List Addr} {Pv:Nat → Value → Prop} {St:Nat → Heap → Prop} {R:Result → Shared → Prop} {xs:List Str} (W:Walks P w A.in1 I fp wr xs.length Pv St) (D:Addr) (hD:D ∉ fp) (hv:∀ i v,Pv i v → ∃ k t,xs[i]? = some k ∧ v = .str k t) :
  ∀ (ys:List Str) (i:Nat) (s:Shared) (l:List Str),xs.drop i = ys → i ≤ xs.length → St i s.heap → SetS P w s.heap D l → l.length + ys.length + 1 < scanBound →
   (∀ h' tk,(∀ b o,b ≠ D → b ∉ wr → s.heap.get? b = some o → h'.get? b = some o) → SetS P w h' D (addN l ys) → R (.ok (.ret .none)) { s with heap:=h',toks:=tk }) →
   codeAny (model P w) A (.builtin "set.update.loop" ⟨[.ref D,.ref I],[]⟩) R s:=by
 have nw:D ∉ wr:=fun z => hD (W.sub _ z)
 intro ys
 induction ys with
 | nil =>
  intro i s l e hi st R0 room hR
  have ei:i = xs.length:=by
   have:=congrArg List.length e
   simp at this
   omega
  subst ei
  refine codeAny_builtin F.entry_set_update_loop ?_
  rw [Around.under_plainId F.plain_set_update_loop _]
  refine wpAny_bind (m:=pyNext (.ref I)) (W.done s _ _ st fun h' tk kk => ?_)
  exact wpAny_pure (hR h' tk (fun b o _ h2 q => kk b o h2 q) (R0.at fun o q => kk D o nw q))
 | cons y ys ih =>
  intro i s l e hi st R0 room hR
  have lt:i < xs.length:=by
   rcases Nat.lt_or_ge i xs.length with q | q
   ·exact q
   ·rw [List.drop_eq_nil_of_le q] at e; cases e
  have hy:xs[i]? = some y:=by
   have:=List.getElem?_drop (xs:=xs) (i:=i) (j:=0)
   rw [e] at this
   simpa using this.symm
  have e1:xs.drop (i + 1) = ys:=by
   have:=List.drop_drop (l:=xs) (i:=1) (j:=i)
   rw [e] at this
   simp at this
   rw [← this]
  simp only [List.length_cons] at room
  refine codeAny_builtin F.entry_set_update_loop ?_
  rw [Around.under_plainId F.plain_set_update_loop _]
  refine wpAny_bind (m:=pyNext (.ref I)) (W.item i s _ _ lt st fun v h1 tk pv st1 kk => ?_)
  obtain ⟨k,t,hk,rfl⟩:=hv i v pv
  obtain rfl:k = y:=Option.some.inj (hk.symm.trans hy)
  have R1:SetS P w h1 D l:=R0.at fun o q => kk D o nw q
  refine wpAny_bind (m:=holding [Value.str k t] (setAdd D (.str k t))) (wpAny_holding ?_)
  unfold setAdd
  refine wpAny_holding (wpAny_bind ((PySem.strKind P w).pyHash (k:=k) (is_str k t) ?_))
  refine addS_hashed (s:={ s with heap:=h1,toks:=tk + 1 }) R1 (by omega) fun _ h2 sb sz R2 => ?_
  have l2:=add1_len (l:=l) (k:=k)
  refine wpAny_pure ⟨plainId_quiet F.plain_set_update_loop _,ih (i + 1) { s with heap:=h2,toks:=tk + 1 } _ e1 lt (W.frame _ h1 h2 st1 fun b hb o q => ?_) R2 (by omega) fun h3 tk3 k3 R3 => ?_⟩
  ·exact (sb b fun z => hD (z ▸ hb)).trans q
  ·exact hR h3 tk3 (fun b o n1 n2 q => k3 b o n1 n2 ((sb b n1).trans (kk b o n2 q))) R3
theorem strs_get:∀ {us:List Value} {xs:List Str},StrsAre us xs → ∀ (i:Nat) (v:Value),us[i]? = some v → ∃ k t,xs[i]? = some k ∧ v = .str k t
 | _,_,.nil,i,v,h => by simp at h
 | _,_,.cons x t q,0,v,h => ⟨x,t,by simp,by simpa using h.symm⟩
 | _,_,.cons x t q,i + 1,v,h => by
  obtain ⟨k,t',h1,h2⟩:=strs_get q i v (by simpa using h)
  exact ⟨k,t',by simpa using h1,h2⟩
set_option maxHeartbeats 8000000 in
theorem call_setS {p:Addr} {its:Array Value} {xs:List Str} {Q:Value → Shared → Prop} (hh:A.handled = none) (hl:s.heap.IsList p its) (hi:StrsAre its.toList xs) (hb:xs.length + 1 < scanBound)
  (h:∀ h' tk,SetS P w h' s.heap.objs.size (addN [] xs) → (∀ b o,s.heap.get? b = some o → h'.get? b = some o) → Q (.ref s.heap.objs.size) { s with heap:=h',toks:=tk }) :
  wpAny (model P w) A (call (.type "set") [.ref p]) Q E s:=by
 have ft:=F.called_set
 obtain ⟨c,tl,hmro⟩:=ft.mro
 have hmade:=ft.made
 have hsub:=ft.sub
 have h1:=ft.notType
 have h2:=ft.canCreate
 have hct:=F.typeCall_set_1 (.ref p)
 refine wpAny_call (codeAny_of_tree ?_)
 show wpAny _ _ (callAny (.type "set") _) _ _ _
 refine wpAny_pure ⟨Code.quiet_builtin _ (by decide +kernel),codeAny_builtin F.entry_type_call ?_⟩
 rw [Around.under_plain (weight_type_call_type "set" [.ref p] []) rfl]
 repeat (any_goals (first | assumption | wp_step))
 generalize hN:({ cls := .type "set",dict:=none,data := .set #[] 0 (.fresh 0 0 (!w.params.followText "set-order")) }:Obj) = N
 have lp:p < s.heap.objs.size:=by obtain ⟨o,ho,_⟩:=hl; exact Heap.lt_size ho
 refine codeAny_mono (code_set_led1 (.ref p) (E:=E) (Q₁:=fun obj s1 => obj = .ref s.heap.objs.size ∧ s1 = { s with heap:=s.heap.push N }) ⟨rfl,by rw [← hN]⟩) fun r s1 hr => ?_
 cases r with
 | error e => exact hr
 | ok fl =>
  cases fl with
  | ret obj =>
   obtain ⟨rfl,rfl⟩:=hr
   have hS:(s.heap.push N).get? s.heap.objs.size = some N:=Heap.get?_push_size _ (by subst hN; rfl)
   have hT:Shared.TypeIs { s with heap:=s.heap.push N } (.ref s.heap.objs.size) "set" := ⟨_,hS,by subst hN; rfl⟩
   have hli:=ft.init.lookup
   have hbi:=ft.init.bind (.ref s.heap.objs.size)
   repeat (any_goals (first | assumption | wp_step))
   refine codeAny_mono (codeAny_call_builtin (R:=wants (fun r s2 => r = .none ∧ ∃ h' tk,s2 = { s with heap:=h',toks:=tk } ∧ SetS P w h' s.heap.objs.size (addN [] xs) ∧ ∀ b o,s.heap.get? b = some o → h'.get? b = some o) E) ft.init.plain F.entry_set_init (check_set_init_1 hT ?_)) fun r2 s2 hr2 => ?_
   ·have lS:(s.heap.push N).IsList p its:=hl.push _
    obtain ⟨⟨ocls,odict,odata,oslots⟩,hol,hcl,nl,hdl⟩:=id lS
    simp only at hcl hdl
    subst hcl; subst hdl
    have e1:=F.sub_list_set
    have e2:=F.sub_list_frozenset
    have e3:(Value.type "list" == Value.type "dict") = false:=by decide
    unfold Builtin.«set.__init__» noKeywords Builtin.Frozenset.updateFrom
    generalize hPI:pyIter = PI
    subst hN
    wp_walk
    subst hPI
    refine wpAny_pyIter_list lS ?_
    refine wpAny_bind (wpAny_runValue ?_)
    have hz:∀ o:Obj,(s.heap.push o).objs.size = s.heap.objs.size + 1:=fun o => Heap.size_push ..
    have nI:p ≠ (s.heap.push { cls := .type "set",dict:=none,data := .set #[] 0 (.fresh 0 0 (!w.params.followText "set-order")) }).objs.size:=by rw [hz]; exact Nat.ne_of_lt (Nat.lt_succ_of_lt lp)
    have hx:its.size = xs.length:=by rw [← StrsAre.len_eq hi,Array.length_toList]
    have W:=Walks.list (prog:=P) (w:=w) (A:=A.in1.in1.in1) (by simp [hh]) (s.heap.push { cls := .type "set",dict:=none,data := .set #[] 0 (.fresh 0 0 (!w.params.followText "set-order")) }).objs.size p nI its
    rw [hx] at W
    refine fill W s.heap.objs.size ?_ (fun i v hv => strs_get hi i v (by rw [Array.getElem?_toList]; exact hv)) xs 0 _ [] rfl (Nat.zero_le _) ⟨⟨_,Heap.get?_push_size _ rfl,rfl,rfl⟩,lS.push _⟩ (freshS ?_ (Heap.get?_push_of_some _ hS)) (by simpa using hb) fun h' tk kk R1 => ?_
    ·rw [hz]
     simp only [List.mem_cons,List.not_mem_nil,or_false,not_or]
     exact ⟨Nat.ne_of_lt (Nat.lt_succ_self _),Nat.ne_of_gt lp⟩
    ·cases w.params.followText "set-order"
     ·exact .inr rfl
     ·exact .inl rfl
    ·refine wpAny_pure ?_
     show wpAny _ _ (ret Value.none) _ _ _
     refine wpAny_pure ⟨rfl,h',tk,rfl,R1,fun b o q => ?_⟩
     have lb:=Heap.lt_size q
     refine kk b o (Nat.ne_of_lt lb) ?_ (Heap.get?_push_of_some _ (Heap.get?_push_of_some _ q))
     rw [hz]
     simp only [List.mem_singleton]
     exact Nat.ne_of_lt (Nat.lt_succ_of_lt lb)
   ·cases r2 with
    | error e => exact hr2
    | ok fl2 =>
     cases fl2 with
     | ret r =>
      obtain ⟨rfl,h',tk,rfl,R1,kk⟩:=hr2
      repeat (any_goals (first | assumption | wp_step))
      exact h _ _ R1 kk
     | _ => exact hr2.elim
  | _ => exact hr.elim
end
def SetSO (P:Program) (w:World) (a:Addr) (l:List Str):HO := .ext fun h => SetS P w h a l
theorem setSO_new {w:World} {P:Program} {H:Hp} {h:Heap} {a:Addr} {l:List Str} (R:SetS P w h a l):ObjOk P w H h a (SetSO P w a l):=by
 have ⟨D,ho⟩:=R.look
 exact ⟨R,⟨_,ho⟩,fun h1 h2 p k => SetS.at p k⟩
section
variable {X:Cx}
theorem setSO_get {pins:List (Addr × Obj)} {σ:L2.St} {H:Hp} {s:Shared} {a:Addr} {l:List Str} (I:Inv X pins σ H s) (ha:H a = some (SetSO X.prog X.w a l)):SetS X.prog X.w s.heap a l:=(I.hok a _ ha).1
def rSetS (K:PySem.W.Frag) (P:Program) (w:World):List V → Hp → VK → Prop:=fun vs H Q => ∃ (p:Addr) (xs:List Str),vs = [V.ref p] ∧ SqL K H p (xs.map V.str) ∧ xs.length + 1 < scanBound ∧ ∀ a,H a = none → Q (.ref a) (upd H a (SetSO P w a (addN [] xs)))
theorem cr_setS (hc:X.calm = true):CallR X (.type "set") (rSetS X.K X.prog X.w):=by
 intro pins s σ H vs us Q I r h
 obtain ⟨p,xs,rfl,hs,hb,q⟩:=h
 obtain ⟨its,rv,hl,_⟩:=I.list hs
 rw [Vals.ref1 r]
 refine call_setS (I.ok.hd hc) hl.isList (by simpa using rv.strs) hb fun h' tk R kk => ?_
 exact ⟨.ref s.heap.objs.size,upd H s.heap.objs.size (SetSO X.prog X.w s.heap.objs.size (addN [] xs)),I.laid (t':=tk) kk (Nat.le_refl _) (setSO_new R),rfl,q _ (I.hok.fresh (Nat.le_refl _))⟩
def rSortedU (P:Program) (w:World):List V → Hp → VK → Prop:=fun vs H Q => ∃ (a:Addr) (l:List Str),vs = [V.ref a] ∧ H a = some (SetSO P w a l) ∧ ∀ (ys:List Str) (p:Addr),ys.Perm l → sortedS ys = true → H p = none → Q (.ref p) (upd H p (.lst (ys.map V.str)))
theorem cr_sortedU (hc:X.calm = true):CallR X (.builtin "sorted") (rSortedU X.prog X.w):=by
 intro pins s σ H vs us Q I r h
 obtain ⟨a,l,rfl,ha,q⟩:=h
 have R:=setSO_get I ha
 rw [Vals.ref1 r]
 refine sortedSet R (I.ok.hd hc) fun s' p out c ys kk g o hp ho hS pm so => ?_
 have hl:(ys.map V.str).length ≤ sizeLine:=by rw [List.length_map,pm.length_eq]; exact fits_of_scanBound R.few
 have hn:H p = none:=I.hok.fresh hp
 have J:Inv X pins σ (upd H p (.lst (ys.map V.str))) s':=by
  have J0:Inv X pins σ (upd H p (.lst (ys.map V.str))) { s with heap:=s'.heap,gens:=s'.gens,drawn:=s'.drawn,toks:=s'.toks } :=
   I.call (ch:=[]) (Un.laid kk hp hn) (I.hok.laid kk hp ⟨hl,out.toList,c,vals_of_strs hS,ho⟩) (by rw [g]; exact I.bare) (fun _ z => nomatch z)
  cases s'
  cases s
  cases o
  exact J0
 exact ⟨.ref p,_,J,rfl,q ys p pm so hn⟩
end
end
end GU
namespace GU
open PySem PySem.Spec PyProof.Rows L2 PySem.Froz GG
section
structure FarZ (X:Cx) (pins:List (Addr × Obj)) (H:Hp) (lo:Nat) (Z:List Addr):Prop where
 h:∀ b u,H b = some u → b < lo ∨ b ∈ Z
 p:∀ p ∈ X.pn ++ pins,p.1 < lo ∨ p.1 ∈ Z
 l:X.env.locals < lo ∨ X.env.locals ∈ Z
 c:∀ x c,X.env.cells.lookup x = some c → c < lo ∨ c ∈ Z
 z:∀ b,lo ≤ b → b ∉ Z → b ∈ X.ex ∨ X.s_0.heap.objs.size ≤ b
theorem inv_turnedZ {X:Cx} {pins:List (Addr × Obj)} {σ:L2.St} {H:Hp} {s2 s3:Shared} {lo gi:Nat} {F:Hp} {Z:List Addr} (I:Inv X pins σ H s2) (T:Turned X.prog X.w F lo gi (frs X.stack) Z s2 s3) (f:FarZ X pins H lo Z) (cv:Cov F H):Inv X pins σ H s3:=by
 generalize hch:(List.range' lo (s2.heap.objs.size - lo)).filter (fun b => decide (b ∉ Z)) = ch
 have inn:∀ b ∈ ch,lo ≤ b ∧ b ∉ Z:=fun b hb => by
  rw [← hch] at hb
  obtain ⟨h1,h2⟩:=List.mem_filter.mp hb
  exact ⟨(List.mem_range'_1.mp h1).1,of_decide_eq_true h2⟩
 have out:∀ b o,s2.heap.get? b = some o → b ∉ ch → b < lo ∨ b ∈ Z:=fun b o e hb => by
  have h1:=Heap.lt_size e
  rcases Nat.lt_or_ge b lo with q | q
  ·exact .inl q
  ·by_cases hz:b ∈ Z
   ·exact .inr hz
   ·refine absurd ?_ hb
    rw [← hch]
    exact List.mem_filter.mpr ⟨List.mem_range'_1.mpr ⟨q,by rw [Nat.add_sub_cancel' (Nat.le_of_lt (Nat.lt_of_le_of_lt q h1))]; exact h1⟩,decide_eq_true hz⟩
 have far:∀ b,b < lo ∨ b ∈ Z → b ∉ ch:=fun b h hb => by
  obtain ⟨h1,h2⟩:=inn b hb
  exact h.elim (fun z => absurd (Nat.lt_of_lt_of_le z h1) (Nat.lt_irrefl _)) h2
 have tr:∀ b u,H b = some u → b ∉ frs X.stack:=fun b u e hb => by
  have:=I.stkFree b hb
  rw [this] at e; cases e
 have fnone:∀ b,H b = none → F b = none:=fun b n => by
  cases q:F b with
  | none => rfl
  | some u => rw [cv.sub b u q] at n; cases n
 have kp:∀ b o,b < lo ∨ b ∈ Z → F b = none → b ∉ frs X.stack → s2.heap.get? b = some o → s3.heap.get? b = some o:=fun b o h1 h2 h3 e => h1.elim (fun z => T.keep b o z h2 h3 e) fun z => T.zk b o z e
 have sl:∀ b o,b < lo ∨ b ∈ Z → b ∈ frs X.stack → s2.heap.get? b = some o → ∃ x,s3.heap.get? b = some { o with slots:=x }:=fun b o h1 h3 e => h1.elim (fun z => T.slot b o z h3 e) fun z => ⟨o.slots,T.zk b o z e⟩
 refine I.call' (ch:=ch) T.os ⟨fun b o e n hb hx => kp b o (out b o e hx) (fnone b n) hb e,fun b o e n hb hx => sl b o (out b o e hx) hb e,fun b o e n hx => n,fun b o e hx => ?_,fun _ _ e => e,fun _ _ _ e => e,fun b ps e => ⟨#[],by rw [e]; simp⟩⟩ ?_ T.bare (fun b hb => ?_)
 ·by_cases q:b ∈ frs X.stack
  ·obtain ⟨x,e1⟩:=sl b o (out b o e hx) q e
   exact ⟨_,e1⟩
  ·cases qF:F b with
   | none => exact ⟨o,kp b o (out b o e hx) qF q e⟩
   | some u => exact obj_there (T.fz b u qF)
 ·intro b u e
  cases qF:F b with
  | some u' =>
   obtain rfl:u' = u:=Option.some.inj ((cv.sub b u' qF).symm.trans e)
   exact (T.fz b _ qF).stay (fun _ _ _ z => z) (fun c z => cv.sub _ _ z) fun c xs z => cv.sub _ _ z
  | none =>
   refine (I.hok b u e).stay (fun c v hc q => ?_) (fun _ z => z) fun _ _ z => z
   have hcH:(∃ u',H c = some u') ∧ F c = none:=by
    rcases hc with z | z
    ·subst z; exact ⟨⟨_,e⟩,qF⟩
    ·refine ⟨⟨_,z⟩,?_⟩
     cases y:F c with
     | none => rfl
     | some u2 =>
      have e2:=cv.sub c u2 y
      rw [z] at e2
      obtain rfl:=Option.some.inj e2
      obtain ⟨u3,q3⟩:=cv.fr.clo c b y
      rw [qF] at q3; cases q3
   obtain ⟨⟨u',hu⟩,fc⟩:=hcH
   exact kp c v (f.h c u' hu) fc (tr c u' hu) q
 ·obtain ⟨h1,h2⟩:=inn b hb
  refine ⟨f.z b h1 h2,fun e => ?_,fun x c e1 e2 => ?_,fun p hp e => ?_⟩
  ·exact far _ f.l (e ▸ hb)
  ·exact far _ (f.c x c e1) (e2 ▸ hb)
  ·exact far _ (f.p p hp) (e ▸ hb)
section
variable {X:Cx}
theorem addS_ok {pins:List (Addr × Obj)} {σ:L2.St} {H:Hp} {s:Shared} {E:Value → Shared → Prop} {D:Addr} {l:List Str} {k:Str} {u:Tok} {Q:Value → Shared → Prop} (I:Inv X pins σ H s) (hD:H D = some (SetSO X.prog X.w D l)) (room:l.length + 1 < scanBound)
  (h:∀ h',Inv X pins σ (upd H D (SetSO X.prog X.w D (add1 l k))) { s with heap:=h',toks:=s.toks + 1 } → (∀ d,d ≠ D → h'.get? d = s.heap.get? d) → Q .none { s with heap:=h',toks:=s.toks + 1 }):wpAny (model X.prog X.w) X.A (call (.builtin "set.add") [.ref D,.str k u]) Q E s:=by
 have R:=setSO_get I hD
 refine addS R room fun h' sb sz new => ?_
 obtain ⟨D',he⟩:=new.look
 exact h h' (I.write (e:=D) (t':=s.toks + 1) (by rw [hD]; trivial) (.inl rfl) (fun b v hb hv => (sb b hb).trans hv) ⟨_,he⟩ (setSO_new new)) sb
abbrev HpD (P:Program) (w:World) (H:Hp) (D:Addr) (l:List Str):Hp:=upd H D (SetSO P w D l)
def tScG (P:Program) (w:World) (t:TGi) (g:TG) (tt:L2.TT) (te:TE) (vs:List Nat):TE:=fun σ H Q => t σ H fun L H1 F lo => ∃ Ls:Nat → List Str,Ls 0 = [] ∧ (∀ i,i < L.length → (Ls i).length + 1 < scanBound) ∧
 ∀ D,H1 D = none → (∀ i x,L[i]? = some x → g x (wipe σ vs) (HpD P w H1 D (Ls i)) fun σ2 H2 => wipe σ2 vs = wipe σ vs ∧ H2 = HpD P w H1 D (Ls i) ∧ tt σ2 H2 fun b H3 => H3 = HpD P w H1 D (Ls i) ∧
  if b = true then te σ2 H3 fun y H4 => H4 = HpD P w H1 D (Ls i) ∧ ∃ k,y = .str k ∧ Ls (i + 1) = add1 (Ls i) k else Ls (i + 1) = Ls i) ∧ Q (.ref D) (HpD P w H1 D (Ls L.length))
theorem pe_scG {k0:Nat} {elt tg iter:Expr} {ifs:List Expr} {scope:Scope} {own:List (PySem.Str × Nat)} {pos:Pos} {t:TGi} {g:TG} {tt:L2.TT} {te:TE} (hN:X.N.Nodup) (hi:PGi X k0 iter t) (hr:Room k0 X.A) (ok:BlkOk X.N X.env.scope scope own)
  (hcl:∀ n,cellsFrom n scope.names (cloFrom X.env.cells scope.names []) = [])
  (hg:∀ (s:Shared) (H:Hp) (C:Addr) (cl:List (PySem.Str × Addr)) (fp:List Addr),PG (X.blk s H scope (compEnvC scope cl C X.env) fp) tg g) (ht:∀ (s:Shared) (H:Hp) (C:Addr) (cl:List (PySem.Str × Addr)) (fp:List Addr),PTs (X.blk s H scope (compEnvC scope cl C X.env) fp) ifs tt)
  (he:∀ (s:Shared) (H:Hp) (C:Addr) (cl:List (PySem.Str × Addr)) (fp:List Addr),PE (X.blk s H scope (compEnvC scope cl C X.env) fp) elt te) (hs:∀ x,foldedSetIterable iter X.env x = pure x:=by intro _; rfl) :
  PE X (.SetComp elt [⟨tg,iter,ifs,0⟩] scope pos) (tScG X.prog X.w t g tt te (own.map (·.2))):=by
 refine ⟨fun pins s σ H Q I h => ?_⟩
 rw [PpSet.eval_SetComp]
 have hfree:∀ y ∈ scope.names,y.2 = .free → ∃ c,X.env.cells.lookup y.1 = some c:=fun y hy e => by
  rcases ok.free y hy e with k | k
  ·exact I.ok.has _ (.inl k)
  ·exact I.ok.has _ (.inr k)
 refine wpAny_comprehension_free rfl hs (closure_ok hfree) ok.kind (fun y hy e => by rw [ok.uniq y hy,e]) (thn (hi.run pins s σ H _ I h) fun u s1 h1 => ?_)
 obtain ⟨c,vs,L,H1,rfl,eP,ew,eb,eo,hv,I1,hgen,far,gp,_,cov,Ls,Ls0,room,cont⟩:=h1
 obtain ⟨P,w,base,A,outer,lo,gi,a,F,Z0⟩:=c
 obtain rfl:P = X.prog:=eP
 obtain rfl:w = X.w:=ew
 obtain rfl:base = X.base:=eb
 obtain rfl:outer = X.stack:=eo
 have hlen:vs.length = L.length:=hv.length.symm
 refine wpAny_pyIter_gen hgen (PpSet.newSet_ok (newEnv_comp ?_))
 generalize hD:s1.heap.objs.size = D
 have hDn:H1 D = none:=I1.hok.fresh (Nat.le_of_eq hD)
 obtain ⟨step,fin⟩:=cont D hDn
 generalize hs3:({ s1 with heap:=s1.heap.push { cls := .type "set",dict:=none,data := .set #[] 0 (.fresh 0 0 (!X.w.params.followText "set-order")) } }:Shared) = s3
 have h3:s3.heap = s1.heap.push { cls := .type "set",dict:=none,data := .set #[] 0 (.fresh 0 0 (!X.w.params.followText "set-order")) }:=by rw [← hs3]
 have I3:Inv X pins σ (HpD X.prog X.w H1 D (Ls 0)) s3:=by
  rw [← hs3,Ls0]
  refine I1.laid (t':=s1.toks) (fun b o e => Heap.get?_push_of_some _ e) (Nat.le_of_eq hD) ?_
  rw [← hD]
  refine setSO_new (freshS (led := !X.w.params.followText "set-order") ?_ (Heap.get?_push_size _ rfl))
  cases X.w.params.followText "set-order"
  ·exact .inr rfl
  ·exact .inl rfl
 have hz3:s3.heap.objs.size = D + 1:=by rw [h3,Heap.size_push,hD]
 have loD:lo ≤ D:=by
  obtain ⟨own0,gown0,ha0,oo0,_⟩:=genP_wake (gp X.A [] I1.ok.frames hr (fun b hb => by simp at hb))
  rw [← hD]
  obtain ⟨q1,_,o,q2,_⟩:=oo0.1 _ ha0
  exact Nat.le_of_lt (Nat.lt_of_le_of_lt q1 (Heap.lt_size q2))
 generalize hfp:(List.range' lo (s3.heap.objs.size - lo)).filter (fun b => decide (b ≠ D)) = fp
 have infp:∀ b,b ∈ fp ↔ lo ≤ b ∧ b < s3.heap.objs.size ∧ b ≠ D:=fun b => by
  rw [← hfp,List.mem_filter,List.mem_range'_1,decide_eq_true_eq]
  have:lo ≤ s3.heap.objs.size:=by rw [hz3]; exact Nat.le_succ_of_le loD
  rw [Nat.add_sub_cancel' this]
  exact ⟨fun ⟨⟨p1,p2⟩,p3⟩ => ⟨p1,p2,p3⟩,fun ⟨p1,p2,p3⟩ => ⟨⟨p1,p2⟩,p3⟩⟩
 have hfs:∀ b ∈ X.fs,b < lo:=fs_lt I1 far
 have hst:∀ b ∈ frs X.stack,b < lo:=fun b hb => (List.mem_cons.mp (I1.stkSub b hb)).elim (fun e => e ▸ far.l) (hfs b)
 have hH:∀ l b v,HpD X.prog X.w H1 D l b = some v → b < lo ∨ b = D:=fun l b v e => by
  by_cases z:b = D
  ·exact .inr z
  ·rw [HpD,upd_ne z] at e
   exact .inl (far.h b v e)
 have f3:∀ b ∈ fp,FpOk X pins (HpD X.prog X.w H1 D (Ls 0)) b ∧ b < s3.heap.objs.size:=fun b hb => by
  obtain ⟨p1,p2,p3⟩:=(infp b).mp hb
  refine ⟨⟨?_,Nat.ne_of_gt (Nat.lt_of_lt_of_le far.l p1),fun z => absurd (Nat.lt_of_lt_of_le (hfs b z) p1) (Nat.lt_irrefl _),.inr (Nat.le_trans far.z p1),fun x c e => Nat.ne_of_lt (Nat.lt_of_lt_of_le (far.c x c e) p1),fun p hp => Nat.ne_of_lt (Nat.lt_of_lt_of_le (far.p p hp) p1)⟩,p2⟩
  cases q:HpD X.prog X.w H1 D (Ls 0) b with
  | none => rfl
  | some v => exact (hH _ b v q).elim (fun z => absurd (Nat.lt_of_lt_of_le z p1) (Nat.lt_irrefl _)) fun z => absurd z p3
 have I4:=block_start I3 ok hN f3
 have pg:=hg s3 (HpD X.prog X.w H1 D (Ls 0)) s3.heap.objs.size (cellsFrom (s3.heap.objs.size + 1) scope.names (cloFrom X.env.cells scope.names [])) fp
 have pt:=ht s3 (HpD X.prog X.w H1 D (Ls 0)) s3.heap.objs.size (cellsFrom (s3.heap.objs.size + 1) scope.names (cloFrom X.env.cells scope.names [])) fp
 have pe:=he s3 (HpD X.prog X.w H1 D (Ls 0)) s3.heap.objs.size (cellsFrom (s3.heap.objs.size + 1) scope.names (cloFrom X.env.cells scope.names [])) fp
 show codeAny _ _ (.compStart (.SetComp elt [⟨tg,iter,ifs,0⟩] scope pos) 0 (.ref a) (.ref D) (compEnvC scope (cellsFrom (s3.heap.objs.size + 1) scope.names (cloFrom X.env.cells scope.names [])) s3.heap.objs.size X.env)) _ { s3 with heap:=pushCells (s3.heap.push { cls := .type "dict",data := .dict #[] }) scope.names }
 have cC:(compEnvC scope (cellsFrom (s3.heap.objs.size + 1) scope.names (cloFrom X.env.cells scope.names [])) s3.heap.objs.size X.env).cells = []:=hcl _
 generalize hce:compEnvC scope (cellsFrom (s3.heap.objs.size + 1) scope.names (cloFrom X.env.cells scope.names [])) s3.heap.objs.size X.env = ce at I4 pg pt pe cC ⊢
 have cL:ce.locals = s3.heap.objs.size:=by subst hce; rfl
 have cL':ce.locals = D + 1:=cL.trans hz3
 generalize hs4:({ s3 with heap:=pushCells (s3.heap.push { cls := .type "dict",data := .dict #[] }) scope.names }:Shared) = s4 at I4 ⊢
 have k4:∀ b o,s1.heap.get? b = some o → s4.heap.get? b = some o:=fun b o e => by
  rw [← hs4]
  refine pushCells_keeps _ _ _ _ (Heap.get?_push_of_some _ ?_)
  rw [h3]
  exact Heap.get?_push_of_some _ e
 have g4:s4.gens = s1.gens:=by rw [← hs4,← hs3]
 have gp:=gp X.A [D,D + 1] I1.ok.frames hr (fun b hb => by
  rcases List.mem_cons.mp hb with z | z
  ·rw [z,hD]; exact Nat.le_refl _
  ·rw [List.mem_singleton.mp z,hD]; exact Nat.le_succ _)
 have far4:∀ l,FarZ (X.blk s3 (HpD X.prog X.w H1 D (Ls 0)) scope ce fp) [] (HpD X.prog X.w H1 D l) lo [D,D + 1]:=fun l => ⟨fun b v e => (hH l b v e).imp id fun z => by rw [z]; simp,fun p hp => absurd (show p ∈ ([]:List (Addr × Obj)) ++ [] from hp) (by simp),.inr (by show ce.locals ∈ _; rw [cL']; simp),(fun x c e => by
   have e':ce.cells.lookup x = some c:=e
   rw [cC] at e'
   cases e'),(fun b p1 p2 => by
   by_cases q:b < s3.heap.objs.size
   ·exact .inl ((infp b).mpr ⟨p1,q,fun z => p2 (by rw [z]; simp)⟩)
   ·exact .inr (Nat.le_of_not_lt q))⟩
 have cov4:∀ l,Cov F (HpD X.prog X.w H1 D l):=fun l => ⟨fun b v e => by
  have e1:=cov.sub b v e
  rw [HpD,upd_ne (fun z => by rw [z,hDn] at e1; cases e1)]
  exact e1,cov.fr⟩
 have zz:∀ {pp:List (Addr × Obj)} {σ':L2.St} {l:List Str} {s':Shared},Inv (X.blk s3 (HpD X.prog X.w H1 D (Ls 0)) scope ce fp) pp σ' (HpD X.prog X.w H1 D l) s' → ∀ b ∈ [D,D + 1],∃ o,s'.heap.get? b = some o ∧ (∀ v,o.data ≠ .cell v) ∧ b ∉ frs X.stack ∧ lo ≤ b:=fun {pp σ' l s'} I' b hb => by
  rcases List.mem_cons.mp hb with z | z
  ·subst z
   obtain ⟨D',hd⟩:=(setSO_get (l:=l) I' upd_same).look
   exact ⟨_,hd,(fun v q => by cases q),fun z => absurd (Nat.lt_of_lt_of_le (hst _ z) loD) (Nat.lt_irrefl _),loD⟩
  ·obtain rfl:=List.mem_singleton.mp z
   obtain ⟨m,⟨o,es,ep,hn,hdat,_⟩,_⟩:=I'.loc
   have hn':s'.heap.get? ce.locals = some o:=hn
   rw [cL'] at hn'
   exact ⟨o,hn',(fun v q => by rw [hdat] at q; cases q),fun z => absurd (Nat.lt_of_lt_of_le (hst _ z) (Nat.le_succ_of_le loD)) (Nat.lt_irrefl _),Nat.le_succ_of_le loD⟩
 have slept:∀ {pp:List (Addr × Obj)} {σ':L2.St} {l:List Str} {sA s':Shared} {ow:List Addr} {gw:List Nat},Inv (X.blk s3 (HpD X.prog X.w H1 D (Ls 0)) scope ce fp) pp σ' (HpD X.prog X.w H1 D l) s' → (∀ b o,b ∈ ow → sA.heap.get? b = some o → s'.heap.get? b = some o) →
   (∀ (j:Nat) (y:GenState),j ∈ gw → sA.gens[j]? = some y → s'.gens[j]? = some y) → Slept X.prog X.w X.base X.stack lo F [D,D + 1] ow gw sA s':=fun {pp σ' l sA s' ow gw} I' h1 h2 =>
  ⟨I'.bare,I'.bk,I'.env0.funs,h1,h2,(cov4 l).hok I'.hok,zz I'⟩
 have w0:Wake ⟨X.prog,X.w,X.base,X.A,X.stack,lo,gi,a,F,[D,D + 1]⟩ vs s4:=by
  obtain ⟨ow,gw,_,_,_,hw⟩:=genP_wake gp
  exact hw s4 (slept I4 (fun b o _ e => k4 b o e) fun j y _ e => by rw [g4]; exact e)
 have loop:codeAny (model X.prog X.w) X.A (.compLoop (.SetComp elt [⟨tg,iter,ifs,0⟩] scope pos) 0 (.ref a) (.ref D) ce) (compPost (model X.prog X.w) X.A X.xe none (EP X pins σ Q) (.ref D) s3.heap.objs.size) s4:=by
  refine PpSet.compLoopS_any (fun n s' => ∃ i,Inv (X.blk s3 (HpD X.prog X.w H1 D (Ls 0)) scope ce fp) [] (wipe σ (own.map (·.2))) (HpD X.prog X.w H1 D (Ls i)) s' ∧ i ≤ L.length ∧ n = L.length - i ∧ Wake ⟨X.prog,X.w,X.base,X.A,X.stack,lo,gi,a,F,[D,D + 1]⟩ (vs.drop i) s') ?_ L.length ⟨0,I4,Nat.zero_le _,rfl,w0⟩
  rintro n s5 ⟨i,I5,hi5,rfl,wk⟩
  have wk':wpAny (model X.prog X.w) X.A (pyNext (.ref a)) (Post ⟨X.prog,X.w,X.base,X.A,X.stack,lo,gi,a,F,[D,D + 1]⟩ s5 (vs.drop i)) (fun _ _ => False) s5:=wk
  refine wpAny_mono wk' (fun r s6 post => ?_) fun _ _ z => z.elim
  cases hd:vs.drop i with
  | nil =>
   rw [hd] at post
   obtain ⟨rfl,T⟩:=post
   have e:i = L.length:=by
    have:=congrArg List.length hd
    simp at this
    omega
   subst e
   have I6:=inv_turnedZ I5 T (far4 _) (cov4 _)
   have I7:Inv X pins σ (HpD X.prog X.w H1 D (Ls L.length)) s6:=I3.call' (ch:=fp) I6.os I6.base I6.hok I6.bare fun b hb => ⟨(f3 b hb).1.2.2.2.1,(f3 b hb).1.2.1,(f3 b hb).1.2.2.2.2.1,(f3 b hb).1.2.2.2.2.2⟩
   obtain ⟨m,hn,_⟩:=I6.loc
   have hn:s6.heap.Ns ce.locals m:=hn
   rw [cL] at hn
   have nC:HpD X.prog X.w H1 D (Ls L.length) s3.heap.objs.size = none:=by
    have z:HpD X.prog X.w H1 D (Ls L.length) ce.locals = none:=I6.free
    rw [cL] at z
    exact z
   obtain ⟨f0,f1,f2,f3,f4,f5⟩:=I3.fpOk (Nat.le_refl _) nC
   refine ⟨m,hn,fun h'' sb => ?_⟩
   exact ⟨.ref D,_,I7.turned (t':=s6.toks) (fun b o hb e => (sb.2 b hb).trans e) f0 f1 f3 f4 f5,rfl,fin⟩
  | cons v vs' =>
   rw [hd] at post
   obtain ⟨rfl,T,ig,gp3⟩:=post
   have hlt:i < vs.length:=by
    rcases Nat.lt_or_ge i vs.length with q | q
    ·exact q
    ·rw [List.drop_eq_nil_of_le q] at hd; cases hd
   have hvi:vs[i]? = some v:=by
    have:=List.getElem?_drop (xs:=vs) (i:=i) (j:=0)
    rw [hd] at this
    simpa using this.symm
   have hd1:vs.drop (i + 1) = vs':=by
    have:=List.drop_drop (l:=vs) (i:=1) (j:=i)
    rw [hd] at this
    simp at this
    rw [← this]
   have hLi:i < L.length:=by omega
   obtain ⟨v',hv',rv⟩:=hv.get (List.getElem?_eq_getElem hLi)
   rw [hvi] at hv'
   obtain rfl:=Option.some.inj hv'
   have I6:=inv_turnedZ I5 T (far4 _) (cov4 _)
   refine gen_go ig ?_
   obtain ⟨ow,gw,ha,⟨oo,_,_⟩,nf,hw⟩:=genP_wake gp3
   have nf:=nf rfl
   have I6':=I6.pinned (fp:=ow) (fun b hb => by
    obtain ⟨p1,p2,_⟩:=oo b hb
    have nD:b ≠ D:=fun z => p2 (by rw [z]; simp)
    have nC:b ≠ D + 1:=fun z => p2 (by rw [z]; simp)
    refine ⟨?_,fun z => nC (z.trans cL'),fun z => absurd (Nat.lt_of_lt_of_le (hst b z) p1) (Nat.lt_irrefl _),(far4 (Ls i)).z b p1 p2,fun x c e => ?_,fun p hp => absurd (show p ∈ ([]:List (Addr × Obj)) ++ [] from hp) (by simp)⟩
    ·cases q:HpD X.prog X.w H1 D (Ls i) b with
     | none => rfl
     | some u => exact (hH _ b u q).elim (fun z => absurd (Nat.lt_of_lt_of_le z p1) (Nat.lt_irrefl _)) fun z => absurd z nD
    ·have e':ce.cells.lookup x = some c:=e
     rw [cC] at e'
     cases e') fun b hb => (oo b hb).2.2
   refine wpAny_mono (pg_held (E:=fun _ _ => False) pg I6' rv (step i _ (List.getElem?_eq_getElem hLi))) (fun _ s7 ⟨k7,σ7,H7,I7,w7,e7,q7⟩ => ?_) fun _ _ z => z.elim
   subst e7
   refine wpAny_mono (wpAny_held (pt.run _ (hidS s7) σ7 _ _ (inv_hid I7) q7)) (fun b s8 ⟨k8,s8',c8,H8,I8,e8,q8⟩ => ?_) fun _ _ ⟨_,_,_,z⟩ => z.elim
   have I8:=inv_but I8 c8
   subst e8
   have again:∀ {s9:Shared} {l9:List Str},Inv (X.blk s3 (HpD X.prog X.w H1 D (Ls 0)) scope ce fp) ([] ++ pinsAt ow s6.heap) σ7 (HpD X.prog X.w H1 D l9) s9 → Ls (i + 1) = l9 → KeptG s8.gens s9.gens → ∃ m,m < L.length - i ∧ ∃ i,Inv (X.blk s3 (HpD X.prog X.w H1 D (Ls 0)) scope ce fp) [] (wipe σ (own.map (·.2))) (HpD X.prog X.w H1 D (Ls i)) s9 ∧ i ≤ L.length ∧ m = L.length - i ∧ Wake ⟨X.prog,X.w,X.base,X.A,X.stack,lo,gi,a,F,[D,D + 1]⟩ (vs.drop i) s9:=fun {s9 l9} I9 el k9 => by
    have hl:(wipe σ (own.map (·.2))).length = σ7.length:=by rw [← w7,wipe_length]
    have I9':Inv (X.blk s3 (HpD X.prog X.w H1 D (Ls 0)) scope ce fp) [] (wipe σ (own.map (·.2))) (HpD X.prog X.w H1 D l9) s9:=(I9.unpinned (pins:=[])).weak hl fun j v e => by
     rw [← w7] at e
     exact (wipe_some e).1
    refine ⟨L.length - (i + 1),by omega,i + 1,by rw [el]; exact I9',hLi,rfl,?_⟩
    rw [hd1]
    exact hw s9 (slept I9' (fun b o hb e => (I9.pin (b,o) (List.mem_append_right _ (List.mem_append_right _ (mem_pinsAt hb e)))).1) fun j y hj e => k9 j y (k8 j y (k7 j y e (nf j y hj e)) (nf j y hj e)) (nf j y hj e))
   cases b with
   | false =>
    simp only [Bool.false_eq_true,if_false] at q8 ⊢
    exact again I8 q8 fun j y e _ => e
   | true =>
    simp only [if_true] at q8 ⊢
    refine wpAny_mono (wpAny_held (pe.run _ (hidS s8) σ7 _ _ (inv_hid I8) q8)) (fun u s9 ⟨k9,s9',c9,yv,H9,I9,r9,e9,k,ey,el⟩ => ?_) fun _ _ ⟨_,_,_,z⟩ => z.elim
    have I9:=inv_but I9 c9
    subst e9
    subst ey
    obtain ⟨tk,rfl⟩:=r9
    exact addS_ok (X:=X.blk s3 (HpD X.prog X.w H1 D (Ls 0)) scope ce fp) I9 upd_same (room i hLi) fun h' I10 sb => by
     rw [HpD,L2.upd_upd] at I10
     exact again I10 el fun j y e n => k9 j y e n
 exact PpSet.codeAny_compStart_set loop (wpAny_pyIter_gen (hgen.keeps k4) loop)
end
end
end GU
namespace GU
open PySem PySem.Spec PyProof.Rows L2
section
theorem max_args (a v:Value):argsOk "max" ⟨[a],[(Str.ofString "default",v)]⟩:=by
 unfold argsOk
 kernel_rfl
theorem max_int_gt {P:Program} {w:World} {A:Around} {k m:Int} {t t':Tok} {s:Shared} {Q:Value → Shared → Prop} {E:Value → Shared → Prop} (h:Q (.bool (decide (k > m))) s):wpAny (model P w) A (richCompare .Gt (.int k t) (.int m t')) Q E s :=
 CmpOf.ints_gt (P:=fun i v => ∃ u,v = .int (if i = 0 then k else m) u) (fun i => if i = 0 then k else m) (fun i v z => z) 0 1 (.int k t) (.int m t') s Q E ⟨t,rfl⟩ ⟨t',rfl⟩ h
theorem ints_get:∀ {us:List Value} {xs:List Int},IntsAre us xs → ∀ (i:Nat) (v:Value),us[i]? = some v → ∃ k t,xs[i]? = some k ∧ v = .int k t
 | _,_,.nil,i,v,h => by simp at h
 | _,_,.cons x t q,0,v,h => ⟨x,t,by simp,by simpa using h.symm⟩
 | _,_,.cons x t q,i + 1,v,h => by
  obtain ⟨k,t',h1,h2⟩:=ints_get q i v (by simpa using h)
  exact ⟨k,t',by simpa using h1,h2⟩
def mx (m k:Int):Int:=if k > m then k else m
section
variable {P:Program} {w:World} {A:Around} {E:Value → Shared → Prop} {s:Shared}
abbrev boxO (its:Array Value) (c:Nat):Obj:={ cls := .type "list",dict:=none,data := .seq its c,slots := #[] }
theorem mx_loop {I:Addr} {fp wr:List Addr} {Pv:Nat → Value → Prop} {St:Nat → Heap → Prop} {R:Result → Shared → Prop} {xs:List Int} {kw:List (Str × Value)} (W:Walks P w A.in1 I fp wr xs.length Pv St) (D:Addr) (hD:D ∉ fp) (hv:∀ i v,Pv i v → ∃ k t,xs[i]? = some k ∧ v = .int k t) :
  ∀ (ys:List Int) (i:Nat) (s:Shared) (m:Int) (t:Tok) (c:Nat),xs.drop i = ys → i ≤ xs.length → St i s.heap → s.heap.get? D = some (boxO #[.int m t,.int m t] c) →
   (∀ h' tk t',(∀ b o,b ≠ D → b ∉ wr → s.heap.get? b = some o → h'.get? b = some o) → R (.ok (.ret (.int (ys.foldl mx m) t'))) { s with heap:=h',toks:=tk }) →
   codeAny (model P w) A (.builtin "max.loop" ⟨[.ref I,.none,.ref D],kw⟩) R s:=by
 have nw:D ∉ wr:=fun z => hD (W.sub _ z)
 have nm:(toString "max" ++ toString ".loop" : String) = "max.loop" := by decide
 intro ys
 induction ys with
 | nil =>
  intro i s m t c e hi st hB hR
  have ei:i = xs.length:=by
   have:=congrArg List.length e
   simp at this
   omega
  subst ei
  refine codeAny_builtin F.entry_max_loop ?_
  rw [Around.under_plainId F.plain_max_loop _]
  refine wpAny_bind (m:=seqItems? (.ref D)) (wpAny_seqItems hB rfl ?_)
  show wpAny _ A.in1 (tryCatch (pyNext (.ref I)) _ >>= _) _ _ s
  refine wpAny_bind (wpAny_tryCatch (W.done s _ _ st fun h' tk kk => ?_))
  have hB':=kk D _ nw hB
  refine wpAny_bind (m:=updateSeq D (fun _ => #[])) (wpAny_updateSeq hB' rfl (wpAny_bind (wpAny_letGo (wpAny_pure ?_))))
  exact hR _ tk t fun b o h1 h2 q => (Heap.get?_update_other _ _ (Ne.symm h1)).trans (kk b o h2 q)
 | cons y ys ih =>
  intro i s m t c e hi st hB hR
  have lt:i < xs.length:=by
   rcases Nat.lt_or_ge i xs.length with q | q
   ·exact q
   ·rw [List.drop_eq_nil_of_le q] at e; cases e
  have hy:xs[i]? = some y:=by
   have:=List.getElem?_drop (xs:=xs) (i:=i) (j:=0)
   rw [e] at this
   simpa using this.symm
  have e1:xs.drop (i + 1) = ys:=by
   have:=List.drop_drop (l:=xs) (i:=1) (j:=i)
   rw [e] at this
   simp at this
   rw [← this]
  refine codeAny_builtin F.entry_max_loop ?_
  rw [Around.under_plainId F.plain_max_loop _]
  refine wpAny_bind (m:=seqItems? (.ref D)) (wpAny_seqItems hB rfl ?_)
  show wpAny _ A.in1 (tryCatch (pyNext (.ref I)) _ >>= _) _ _ s
  refine wpAny_bind (wpAny_tryCatch (W.item i s _ _ lt st fun v h1 tk pv st1 kk => ?_))
  obtain ⟨k,t1,hk,rfl⟩:=hv i v pv
  obtain rfl:k = y:=Option.some.inj (hk.symm.trans hy)
  have hB':=kk D _ nw hB
  show wpAny _ A.in1 (tryCatch (holding [Value.int k t1,Value.int k t1] (richCompare .Gt (.int k t1) (.int m t) >>= _)) _ >>= _) _ _ _
  refine wpAny_bind (wpAny_tryCatch (wpAny_holding (wpAny_bind (max_int_gt ?_))))
  refine wpAny_bind (wpAny_holding (wpAny_truthy_bool ?_))
  refine wpAny_bind (wpAny_letGo (wpAny_pure ?_))
  rw [List.foldl_cons] at hR
  by_cases hb:k > m
  ·have em:mx m k = k:=if_pos hb
   rw [decide_eq_true hb]
   simp only [if_true]
   refine wpAny_bind ?_
   refine wpAny_updateSeq hB' rfl (wpAny_bind (wpAny_letGo ?_))
   rw [nm]
   refine wpAny_pure ⟨plainId_quiet F.plain_max_loop _,ih (i + 1) _ k t1 _ e1 lt (W.frame _ _ _ st1 fun b hb o q => ?_) (Heap.get?_update_self _ hB' rfl) fun h2 tk2 t2 k2 => ?_⟩
   ·exact (Heap.get?_update_other _ _ (fun z:D = b => hD (by rw [z]; exact hb))).trans q
   ·rw [em] at hR
    exact hR h2 tk2 t2 fun b o n1 n2 q => k2 b o n1 n2 ((Heap.get?_update_other _ _ (Ne.symm n1)).trans (kk b o n2 q))
  ·have em:mx m k = m:=if_neg hb
   rw [decide_eq_false hb]
   simp only [Bool.false_eq_true,if_false]
   refine wpAny_bind (wpAny_letGo ?_)
   rw [nm]
   refine wpAny_pure ⟨plainId_quiet F.plain_max_loop _,ih (i + 1) _ m t c e1 lt st1 hB' fun h2 tk2 t2 k2 => ?_⟩
   rw [em] at hR
   exact hR h2 tk2 t2 fun b o n1 n2 q => k2 b o n1 n2 (kk b o n2 q)
def mxD (d:Int):List Int → Int
 | [] => d
 | x :: xs => xs.foldl mx x
theorem call_maxD {l:Addr} {its:List Value} {xs:List Int} {d:Int} {td:Tok} {Q:Value → Shared → Prop} (hh:A.handled = none) (hl:s.heap.IsList l its.toArray) (hi:IntsAre its xs)
  (h:∀ h' tk t',(∀ b o,s.heap.get? b = some o → h'.get? b = some o) → Q (.int (mxD d xs) t') { s with heap:=h',toks:=tk }) :
  wpAny (model P w) A (call (.builtin "max") [.ref l] [(Str.ofString "default",.int d td)]) Q E s:=by
 have nm:(toString "max" ++ toString ".loop" : String) = "max.loop" := by decide
 have body:wpAny (model P w) A.in1 (Builtin.«max» ⟨[.ref l],[(Str.ofString "default",.int d td)]⟩) (fun fin s' => match fin with
   | .done f => (match (Except.ok f:Result) with | .ok (.ret v) => Q v s' | .ok _ => False | .error e => E e s')
   | .again c' => c'.quiet = true ∧ codeAny (model P w) A c' (fun r s' => match r with | .ok (.ret v) => Q v s' | .ok _ => False | .error e => E e s') s') E s:=by
  show wpAny _ A.in1 (Builtin.Builtins.bindParams "max" ["key","default"] 0 ⟨[],[(Str.ofString "default",.int d td)]⟩ >>= _) _ _ s
  refine wpAny_bind (wpAny_of_eq (show Builtin.Builtins.bindParams "max" ["key","default"] 0 ⟨[],[(Str.ofString "default",.int d td)]⟩ = pure [none,some (.int d td)] from by first | rfl | kernel_rfl) ?_)
  refine wpAny_bind (wpAny_pure ?_)
  refine wpAny_bind (iter_anyList hl fun s2 e st hfp hlI => ?_)
  refine wpAny_bind (wpAny_newObj_type ?_)
  have nfp:s2.heap.objs.size ∉ [s.heap.objs.size,l]:=fun z => Nat.lt_irrefl _ (hfp _ z)
  have W:=Walks.list (prog:=P) (w:=w) (A:=A.in1) (by simpa using hh) s.heap.objs.size l hlI its.toArray
  have hx:its.toArray.size = xs.length:=by
   have:=IntsAre.length hi
   simpa using this
  rw [hx] at W
  have gv:∀ (i:Nat) (v:Value),its.toArray[i]? = some v → ∃ k t,xs[i]? = some k ∧ v = Value.int k t:=fun i v q => ints_get hi i v (by simpa using q)
  rw [nm]
  refine wpAny_pure ⟨plainId_quiet F.plain_max_loop _,?_⟩
  have hB:(s2.heap.push (boxO #[] 0)).get? s2.heap.objs.size = some (boxO #[] 0):=Heap.get?_push_size _ rfl
  have nw:s2.heap.objs.size ∉ [s.heap.objs.size]:=fun z => nfp (W.sub _ z)
  have st0:=W.frame 0 s2.heap (s2.heap.push (boxO #[] 0)) st fun b _ o q => Heap.get?_push_of_some _ q
  have k2:∀ b o,s.heap.get? b = some o → s2.heap.get? b = some o:=fun b o q => by
   rw [e]
   exact Heap.get?_push_of_some _ q
  have same:∀ h' tk,({ s2 with heap:=h',toks:=tk }:Shared) = { s with heap:=h',toks:=tk }:=fun _ _ => by rw [e]
  refine codeAny_builtin F.entry_max_loop ?_
  rw [Around.under_plainId F.plain_max_loop _]
  refine wpAny_bind (m:=seqItems? (.ref s2.heap.objs.size)) (wpAny_seqItems hB rfl ?_)
  show wpAny _ A.in1 (tryCatch (pyNext (.ref s.heap.objs.size)) _ >>= _) _ _ _
  cases xs with
  | nil =>
   refine wpAny_bind (wpAny_tryCatch (W.done _ _ _ st0 fun h' tk kk => ?_))
   show wpAny _ A.in1 (rule _ >>= fun _ => ret (Value.int d td)) _ _ _
   refine wpAny_bind (wpAny_rule (wpAny_pure ?_))
   have r:=h h' tk td fun b o q => kk b o (fun z => by
    have lb:=Heap.lt_size q
    rw [List.mem_singleton.mp z] at lb
    exact Nat.lt_irrefl _ lb) (Heap.get?_push_of_some _ (k2 b o q))
   rw [← same] at r
   exact r
  | cons x xs =>
   refine wpAny_bind (wpAny_tryCatch (W.item 0 { s2 with heap:=s2.heap.push (boxO #[] 0) } _ _ (Nat.succ_pos _) st0 fun v h1 tk pv st1 kk => ?_))
   obtain ⟨k,t1,hk,rfl⟩:=gv 0 v pv
   obtain rfl:x = k:=Option.some.inj (by simpa using hk)
   have hB':=kk _ _ nw hB
   show wpAny _ A.in1 (updateSeq s2.heap.objs.size (fun _ => #[Value.int x t1,Value.int x t1]) >>= _) _ _ _
   refine wpAny_bind ?_
   refine wpAny_updateSeq hB' rfl ?_
   rw [nm]
   refine wpAny_pure ⟨plainId_quiet F.plain_max_loop _,mx_loop W s2.heap.objs.size nfp gv xs 1 _ x t1 _ rfl (by simp) (W.frame _ _ _ st1 fun b hb o q => ?_) (Heap.get?_update_self _ hB' rfl) fun h' tk' t' k' => ?_⟩
   ·exact (Heap.get?_update_other _ _ (fun z:s2.heap.objs.size = b => nfp (by rw [z]; exact hb))).trans q
   ·have r:=h h' tk' t' fun b o q => by
     have lb:=Heap.lt_size q
     have q2:=k2 b o q
     have n1:b ≠ s2.heap.objs.size:=Nat.ne_of_lt (Heap.lt_size q2)
     have n2:b ∉ [s.heap.objs.size]:=fun z => by
      rw [List.mem_singleton.mp z] at lb
      exact Nat.lt_irrefl _ lb
     exact k' b o n1 n2 ((Heap.get?_update_other _ _ (Ne.symm n1)).trans (kk b o n2 (Heap.get?_push_of_some _ q2)))
    rw [← same] at r
    exact r
 refine wpAny_call (codeAny_call_builtin F.plain_max F.entry_max ?_)
 simp only [checkBuiltinCall,F.kind_max]
 cases hsig:Manifest.signature? "max" with
 | none => exact wpAny_pure body
 | some sig =>
  have ha:Bind.checkArgs "max" sig ⟨[.ref l],[(Str.ofString "default",.int d td)]⟩ = pure ():=by simpa only [argsOk,hsig] using max_args (.ref l) (.int d td)
  simp only [ha]
  exact wpAny_pure body
end
section
variable {X:Cx}
def rMaxD (K:PySem.W.Frag):List V → List V → Hp → VK → Prop:=fun vs zs H Q => ∃ (a:Addr) (ns:List Int) (d:Int),vs = [V.ref a] ∧ zs = [V.int d] ∧ SqL K H a (ns.map V.int) ∧ Q (.int (mxD d ns)) H
theorem cr_maxD (hc:X.calm = true):CallRK X (.builtin "max") [Str.ofString "default"] (rMaxD X.K):=by
 intro pins s σ H vs zs us ws Q I r rz h
 obtain ⟨a,ns,d,rfl,rfl,hs,q⟩:=h
 obtain ⟨its,rv,hl,_⟩:=I.list hs
 obtain rfl:=Vals.ref1 r
 obtain ⟨w1,rfl,t,rfl⟩:=vals1 rz
 exact call_maxD (I.ok.hd hc) hl.isList rv.ints fun h' tk t' hk => ⟨.int _,H,I.kept hk,⟨_,rfl⟩,q⟩
end
end
end GU
namespace GU
open PySem PySem.Spec PyProof.Rows L2 GB GD
section
structure Prp (K:PySem.W.Frag) (C:Addr) (f qual:Str) (st:Stmt):Prop where
 ex:∃ (p g:Addr) (fd:FuncData),Fun K f qual st g fd ∧ PropOf K C f p g
structure PrpM (P:Program) (w:World) (K:PySem.W.Frag) (mg:Str → Option Value) (base:Heap) (k:Nat) (C:Addr) (f:Str) (sp:Sp):Prop where
 ex:∃ (p g:Addr) (fd:FuncData) (ps:List Str),PropOf K C f p g ∧ FnOk P w K mg base CX0 k g fd ps sp ∧ Binds K fd ps []
section
variable {P:Program} {w:World} {K:PySem.W.Frag} {mg:Str → Option Value} {base:Heap}
theorem prpM {k:Nat} {C:Addr} {f qual:Str} {st:Stmt} {N ps:List Str} {Φ:Ph} (D:Prp K C f qual st) (S:FnScope N ps (defScope st))
  (hb:∀ (kV doc pm:Value) (an:Option Addr) (cdv ct:Value) (us:List Value),us.length = ps.length → bindArgs (PySem.W.fnOf f qual (defArgs st) (defBody st) (defScope st) .none kV doc pm an cdv ct) ⟨us,[]⟩ = pure (ps.zip us))
  (hl:∀ args S Kt,Φ args S Kt → args.length = ps.length)
  (body:∀ (f:Addr) (cdv:Value) (A:Around) (outer:List Env) (s:Shared) (H:Hp) (E:XK),Room k (A.deeper (envOfC qual (defScope st) s.heap.objs.size f cdv)) →
   ∃ G,DSts (cxOf CX0 P w K mg base N qual (defScope st) f cdv A outer s H E).nox (defBody st) G ∧ ∀ args S Kt,Φ args S Kt → G (endsD Kt) ⟨startD N.length args,S⟩) :
  PrpM P w K mg base (k + 1) C f (spD K Φ):=by
 obtain ⟨p,g,fd,F,hp⟩:=D.ex
 refine ⟨p,g,fd,ps,hp,F.ok S (spD_len hl) fun cdv A outer s H vs Q E hr h => ?_,F.binds hb⟩
 obtain ⟨G,hG,hw⟩:=body g cdv A outer s H E hr
 exact body_of rfl hG hw h
end
section
variable {X:Cx} {k j:Nat} {C:Addr} {f:Str} {Φ:Ph} {e:Expr} {G:DG} {pos:Pos}
def dPropM (C:Addr) (Φ:Ph) (Go:DG):DG:=fun δ Q => Go δ fun d δ1 => (∃ fs,objFs δ1.S C d = some fs) ∧ Φ [.val d] δ1.S fun d S' => Q d ⟨δ1.vs,S'⟩
theorem d_propM (cl:Cls X.K C) (c:PrpM X.prog X.w X.K X.mg X.base k C f (spD X.K Φ)) (hr:Room j X.A) (hk:k + 1 ≤ j) (he:DE X e G) (hab:attributeBase e f X.env (eval e X.env) = eval e X.env:=by rfl):DE X (.Attribute e f pos) (dPropM C Φ G):=by
 obtain ⟨p,g,fd,ps,hp,F,hb⟩:=c.ex
 refine pe_of (pe_prop (dvs:=[]) (ds:=[]) (E:=E0) he cl hp F (hr.mono hk) hb .nil pass0 hab) fun σ H Q ⟨en,F,R,W,δ,Kt,r0,g0,kk⟩ => ?_
 refine ⟨en,F,R,W,δ,_,r0,g0,?_⟩
 rintro d δ1 F1 R1 W1 H1 v ⟨⟨fs,hf⟩,g1⟩ s1 u1 r1 v1
 obtain ⟨a,dx,xs,rfl,h1,h2⟩:=r1.obj v1 hf
 refine ⟨a,dx,xs,rfl,h1,?_⟩
 show spD X.K Φ [.ref a] H1 Q E0
 exact t_spD (Kt:=Kt) (as:=[.val d]) r1 (.cons v1 .nil) rfl g1 fun d δ' F' R' W' H' v kd s u r' v' => kk _ _ _ _ _ _ _ kd (sT s1 s) (u1.trans u) r' v'
end
section
variable {X:Cx} {e:Expr} {p p2 pos pos2 kpos:Pos} {Gn:DN} {G:DG}
def dMaxD (Gn:DN) (k:Int):DG:=fun δ Q => Gn δ fun ds δ1 => ∃ ns:List Int,ds = ns.map D.int ∧ Q (.int (mxD k ns)) δ1
theorem d_maxD {k:Int} {j:Nat} {kp:Pos} (hc:X.calm = true) (hg:Gl X "max") (hm:X.mg "max" = none) (he:LE X e Gn) (hs0:starEach [e] X.env = (false,eval e X.env) :: starEach [] X.env:=by rfl) (hs:backTo pos (starEach [e] X.env) = (false,eval e X.env) :: backTo pos (starEach [] X.env):=by rfl) (hpl:(backTo pos (starEach [e] X.env)).any (·.1) = false:=by rfl)
  (hall:(backToKw pos (keywordEach [⟨some "default",.Constant (.int k) j kp,kpos⟩] X.env)).all (·.1.isSome) = true:=by rfl) (hnone:(backToKw pos (keywordEach [⟨some "default",.Constant (.int k) j kp,kpos⟩] X.env)).any (·.1.isNone) = false:=by rfl)
  (hks:(backToKw pos (keywordEach [⟨some "default",.Constant (.int k) j kp,kpos⟩] X.env)).filterMap (·.1) = [Str.ofString "default"]:=by rfl) :
  DE X (.Call (.Name "max" p) [e] [⟨some "default",.Constant (.int k) j kp,kpos⟩] pos) (dMaxD Gn k) :=
 pe_of (pe_callBK (cr_maxD hc) hg hm (by decide +kernel) (pa_cons he pa_nil hs0) (pk_cons pe_int pk_nil) (by decide) (by decide) hs hpl hall hnone hks) fun σ H Q ⟨en,F,R,W,δ,Kt,r0,g0,kk⟩ => by
  refine ⟨en,F,R,W,δ,_,r0,g0,?_⟩
  rintro ds δ1 F1 R1 W1 H1 a xs ⟨ns,rfl,g1⟩ s1 u1 r1 q1 x1
  rw [repInts' x1] at q1
  exact ⟨a,ns,k,rfl,rfl,q1,kk _ _ _ _ _ _ _ g1 s1 u1 r1 (.int _)⟩
theorem repStrs' {K:PySem.W.Frag} {F:Hp} {R:List Addr}:∀ {xs:List V} {ns:List Str},RepAll K F R xs (ns.map D.str) → xs = ns.map V.str
 | _,[],.nil => rfl
 | _,b :: bs,.cons h t => by cases h; rw [repStrs' t]; rfl
theorem strsRep {K:PySem.W.Frag} {F:Hp} {R:List Addr}:∀ ns:List Str,RepAll K F R (ns.map V.str) (ns.map D.str)
 | [] => .nil
 | n :: ns => .cons (.str n) (strsRep ns)
def nSortU (Gn:DN):DN:=fun δ Q => Gn δ fun ds δ' => ∃ xs:List Str,ds = xs.map D.str ∧ xs.length + 1 < scanBound ∧ ∀ ys:List Str,ys.Perm (addN [] xs) → sortedS ys = true → Q (ys.map D.str) δ'
theorem n_sortU (hc:X.calm = true) (hg:Gl X "sorted") (hm:X.mg "sorted" = none) (hg2:Gl X "set") (hm2:X.mg "set" = none) (he:LE X e Gn)
  (hs:starEach [e] X.env = (false,eval e X.env) :: starEach [] X.env:=by rfl) (hpl:(backTo pos2 (starEach [] X.env)).any (·.1) = false:=by rfl)
  (hs2:starEach [.Call (.Name "set" p2) [e] [] pos2] X.env = (false,eval (.Call (.Name "set" p2) [e] [] pos2) X.env) :: starEach [] X.env:=by rfl) (hpl2:(backTo pos (starEach [] X.env)).any (·.1) = false:=by rfl) :
  NE X (.Call (.Name "sorted" p) [.Call (.Name "set" p2) [e] [] pos2] [] pos) (nSortU Gn) :=
 pe_of (pe_callB (cr_sortedU hc) hg hm (by decide +kernel) (pa_cons (pe_callTy (cr_setS hc) hg2 hm2 PyProof.Rows.boot_set (pa_cons he pa_nil hs) (by decide) (by decide) hs hpl) pa_nil hs2) (by decide) (by decide) hs2 hpl2) fun σ H Q ⟨en,F,R,W,δ,Kt,r0,g0,kk⟩ => by
  refine ⟨en,F,R,W,δ,_,r0,g0,?_⟩
  rintro ds δ1 F1 R1 W1 H1 a xs ⟨ns,rfl,hb,g1⟩ s1 u1 r1 q1 x1
  rw [repStrs' x1] at q1
  refine ⟨a,ns,rfl,q1,hb,fun b hn => ⟨b,addN [] ns,rfl,upd_same,fun ys q pm so hq => ?_⟩⟩
  obtain ⟨r2,s2⟩:=r1.newF (o:=SetSO X.prog X.w b (addN [] ns)) hn
  exact kk _ δ1 _ R1 _ _ q _ (g1 ys pm so) (sT s1 s2) u1 (r2.newT hq) upd_same (r2.fNone hq) setW_same (r2.dm _ hq) (strsRep ys)
end
def rowsX (kd:GG.Tx → Str) (l:List GG.Tx):List Str:=(l.filter fun y => decide (kd y = ("row" : Str))).map GG.Tx.txt
theorem rowsX_yes {kd:GG.Tx → Str} {l:List GG.Tx} {y:GG.Tx} (h:kd y = ("row" : Str)):addN [] (rowsX kd (l ++ [y])) = add1 (addN [] (rowsX kd l)) y.txt:=by
 have e:(List.filter (fun y => decide (kd y = ("row" : Str))) [y]) = [y]:=List.filter_cons_of_pos (decide_eq_true h)
 unfold rowsX addN
 rw [List.filter_append,List.map_append,List.foldl_append,e]
 rfl
theorem rowsX_no {kd:GG.Tx → Str} {l:List GG.Tx} {y:GG.Tx} (h:kd y ≠ ("row" : Str)):rowsX kd (l ++ [y]) = rowsX kd l:=by
 have e:(List.filter (fun y => decide (kd y = ("row" : Str))) [y]) = []:=List.filter_cons_of_neg (by rw [decide_eq_true_eq]; exact h)
 unfold rowsX
 rw [List.filter_append,List.map_append,e]
 simp
section
variable {K:PySem.W.Frag} {F:Hp} {R:List Addr}
theorem layL_at:∀ {ts:List GG.TT} {us:List GG.Tx},GG.LayL K F R ts us → ∀ (i:Nat) (t:GG.TT),ts[i]? = some t → ∃ u,us[i]? = some u ∧ Rep K F R (.ref t.adr) u.d
 | _,_,.nil,i,t,h => by simp at h
 | _,_,.cons a b,0,t,h => by
  obtain rfl:=Option.some.inj (by simpa using h)
  exact ⟨_,by simp,a.rep⟩
 | _,_,.cons a b,i + 1,t,h => by
  obtain ⟨u,h1,h2⟩:=layL_at b i t (by simpa using h)
  exact ⟨u,by simpa using h1,h2⟩
end
theorem take_succ' {α:Type} {l:List α} {i:Nat} {x:α} (h:l[i]? = some x):l.take (i + 1) = l.take i ++ [x]:=by
 rw [List.take_add_one,h]
 rfl
def nRows (C:Addr) (h i:Nat) (Go:DG):DN:=fun δ Q => Go δ fun d δ' => i < δ'.vs.length ∧ ∃ (u:GG.Tx) (kd:GG.Tx → Str),d = u.d ∧ GG.WfT C u ∧ GG.hX u ≤ h ∧ GG.SmlX u ∧ (GG.subX u).length ≤ 3000 ∧
 (∀ y ∈ GG.subX u,∃ fs,y.d = .obj C fs ∧ fs.lookup ("kind" : Str) = some (.str (kd y)) ∧ fs.lookup ("text" : Str) = some (.str y.txt)) ∧ ∀ ys:List Str,ys.Perm (addN [] (rowsX kd (GG.subX u))) → sortedS ys = true → Q (ys.map D.str) δ'
section
variable {X:Cx}
theorem n_rows {C:Addr} (mth:Mth X.K C "subterms" "Term.subterms" GG.s_sub) (k:GG.SubK X.K C) (nk:NoAttr X.K C "kind") {h i:Nat} {x:Str} {scope:Scope} (hc:X.calm = true) (hN:X.N.Nodup) (hr:Room (3 * (h + 1) + 3 + 3) X.A) {o:Expr} {Go:DG} {p pos apos pos' posC p1 p2 p3 p4 p5 p6 p7:Pos} {j:Nat} {pl:Sem Bool} (ho:DE X o Go)
  (hg:Gl X "sorted") (hm:X.mg "sorted" = none) (hev:GG.CallEq X.env o apos pos' pl) (ok:BlkOk X.N X.env.scope scope [(x,i)]) (hi:X.N[i]? = some x) (hx:∀ cl Ca,(compEnvC scope cl Ca X.env).scope.names.lookup x = some .local) (hd:(x == ("__debug__" : Str)) = false) (hcd:(x == ("__classdict__" : Str)) = false)
  (hcl:∀ n,cellsFrom n scope.names (cloFrom X.env.cells scope.names []) = [])
  (hs2:starEach [.SetComp (.Attribute (.Name x p1) "text" p2) [⟨.Name x p3,.Call (.Attribute o "subterms" apos) [] [] pos',[.Compare (.Attribute (.Name x p4) "kind" p5) [.Eq] [.Constant (.str "row") j p6] p7],0⟩] scope posC] X.env = (false,eval (.SetComp (.Attribute (.Name x p1) "text" p2) [⟨.Name x p3,.Call (.Attribute o "subterms" apos) [] [] pos',[.Compare (.Attribute (.Name x p4) "kind" p5) [.Eq] [.Constant (.str "row") j p6] p7],0⟩] scope posC) X.env) :: starEach [] X.env:=by rfl) (hpl2:(backTo pos (starEach [] X.env)).any (·.1) = false:=by rfl) :
  NE X (.Call (.Name "sorted" p) [.SetComp (.Attribute (.Name x p1) "text" p2) [⟨.Name x p3,.Call (.Attribute o "subterms" apos) [] [] pos',[.Compare (.Attribute (.Name x p4) "kind" p5) [.Eq] [.Constant (.str "row") j p6] p7],0⟩] scope posC] [] pos) (nRows C h i Go):=by
 have sc:=pe_scG (X:=X) (k0:=3 * (h + 1) + 3) (elt := .Attribute (.Name x p1) "text" p2) (tg := .Name x p3) (ifs:=[.Compare (.Attribute (.Name x p4) "kind" p5) [.Eq] [.Constant (.str "row") j p6] p7]) (pos:=posC) (own:=[(x,i)]) hN (GG.sub_genX (h:=h) mth k (hr.mono (by omega)) ho hev) (hr.mono (by omega)) ok hcl
  (fun s H Ca cl fp => pg_name (i:=i) hN hi (.inl (hx cl Ca)) (.inr (hx cl Ca))) (fun s H Ca cl fp => pts_one (pt_cmpR op_eq (GB.pe_fldK (K:=X.K) rfl (pe_var (X:=X.blk s H scope (compEnvC scope cl Ca X.env) fp) (i:=i) hi (.inl (hx cl Ca)) hd hcd) (by rfl)) pe_str (nomark _))) (fun s H Ca cl fp => GB.pe_fldK (K:=X.K) rfl (pe_var (X:=X.blk s H scope (compEnvC scope cl Ca X.env) fp) (i:=i) hi (.inl (hx cl Ca)) hd hcd) (by rfl))
 refine pe_of (pe_callB (cr_sortedU hc) hg hm (by decide +kernel) (pa_cons sc pa_nil hs2) (by decide) (by decide) hs2 hpl2) fun σ H Q ⟨en,F,R,W,δ,Kt,r0,g0,kk⟩ => ?_
 refine ⟨en,F,R,W,δ,_,r0,g0,?_⟩
 rintro d δ1 F1 R1 W1 H1 v ⟨hil,u,kd,ed,wf,hh,sx,hl,hk,q⟩ s1 u1 r1 rv
 refine ⟨u,F1,R1,wf,r1.fh,ed ▸ rv,hh,sx,fun t lo lay tin low => ?_⟩
 have len:(GG.refs (GG.subs t)).length = (GG.subX u).length:=by simp [GG.refs,lay.subs.length]
 have le1:∀ m,(addN [] (rowsX kd ((GG.subX u).take m))).length ≤ m:=fun m => by
  refine Nat.le_trans addN_len ?_
  unfold rowsX
  rw [List.length_nil,Nat.zero_add,List.length_map]
  exact Nat.le_trans (List.length_filter_le _ _) (List.length_take_le _ _)
 refine ⟨fun m => addN [] (rowsX kd ((GG.subX u).take m)),rfl,fun m hm => ?_,fun D hD => ⟨fun m x hm => ?_,?_⟩⟩
 ·have:=le1 m
  rw [len] at hm
  show (addN [] (rowsX kd ((GG.subX u).take m))).length + 1 < 4096
  omega
 ·have hx':(GG.subs t)[m]?.map (fun t => V.ref t.adr) = some x:=by
   have:=hm
   unfold GG.refs at this
   rwa [List.getElem?_map] at this
  obtain ⟨tm,ht,rfl⟩:=Option.map_eq_some_iff.mp hx'
  obtain ⟨y,hy,ry⟩:=layL_at lay.subs m tm ht
  obtain ⟨fs,e1,e2,e3⟩:=hk y (List.mem_of_getElem? hy)
  rw [e1] at ry
  cases ry with
  | @obj a _ dx xs _ e rf =>
   obtain ⟨vk,l1,rk⟩:=rf.look e2
   obtain ⟨vt,l2,rt⟩:=rf.look e3
   cases rk
   cases rt
   have ne:tm.adr ≠ D:=fun z => by
    have z1:=r1.fh _ _ e
    rw [z,hD] at z1
    cases z1
   have hl:i < σ.length:=by rw [← r1.ln]; exact hil
   have at_:HpD X.prog X.w H1 D (addN [] (rowsX kd ((GG.subX u).take m))) tm.adr = some (.ins C dx xs):=by
    rw [HpD,upd_ne ne]
    exact r1.fh _ _ e
   have w2:∀ v:Option V,((σ.set i none).set i v).set i none = σ.set i none:=fun v => by
    rw [List.set_set,List.set_set]
   have g2:∀ v:V,((σ.set i none).set i (some v))[i]? = some (some v):=fun v => by
    rw [List.set_set,List.getElem?_set_self hl]
   refine ⟨w2 _,rfl,?_⟩
   refine ⟨_,g2 _,tm.adr,C,dx,xs,_,rfl,at_,k.cl,nk,l1,?_⟩
   have step:(GG.subX u).take (m + 1) = (GG.subX u).take m ++ [y]:=take_succ' hy
   refine ⟨rfl,_,rfl,rfl,?_⟩
   by_cases hr:kd y = ("row" : Str)
   ·rw [if_pos (decide_eq_true (by rw [hr]))]
    refine ⟨_,g2 _,tm.adr,C,dx,xs,_,rfl,at_,k.cl,k.nt,l2,rfl,y.txt,rfl,?_⟩
    show addN [] (rowsX kd ((GG.subX u).take (m + 1))) = add1 (addN [] (rowsX kd ((GG.subX u).take m))) y.txt
    rw [step,rowsX_yes hr]
   ·rw [if_neg (by rw [decide_eq_true_eq]; exact fun z => hr (V.str.inj z))]
    show addN [] (rowsX kd ((GG.subX u).take (m + 1))) = addN [] (rowsX kd ((GG.subX u).take m))
    rw [step,rowsX_no hr]
 ·refine ⟨D,addN [] (rowsX kd (GG.subX u)),rfl,?_,fun ys q' pm so hq => ?_⟩
  ·rw [HpD,upd_same,len]
   show some (SetSO X.prog X.w D (addN [] (rowsX kd ((GG.subX u).take (GG.subX u).length)))) = _
   rw [List.take_length]
  ·obtain ⟨r2,s2⟩:=r1.newF (o:=SetSO X.prog X.w D (addN [] (rowsX kd ((GG.subX u).take (GG.refs (GG.subs t)).length)))) hD
   exact kk _ δ1 _ R1 _ _ q' _ (q ys pm so) (sT s1 s2) u1 (r2.newT hq) upd_same (r2.fNone hq) setW_same (r2.dm _ hq) (strsRep ys)
end
end
end GU
namespace GU
open PySem PySem.Spec PyProof.Rows L2 GB GD
section
theorem rel_fOwn {K:PySem.W.Frag} {en:En} {F:Hp} {R:List Addr} {W:GD.Own} {δ:DS} {σ:L2.St} {H:Hp} {p:Addr} {w:Ow} (r:Rel K en F R W δ σ H) (z:W p = some w):F p = none:=by
 cases q:F p with
 | none => rfl
 | some u => have:=r.fw _ _ q; rw [z] at this; cases this
theorem rel_takeC {K:PySem.W.Frag} {en:En} {F:Hp} {R:List Addr} {W:GD.Own} {δ:DS} {σ:L2.St} {H:Hp} {j:Nat} {ds:List D} (r:Rel K en F R W δ σ H) (h:δ.S j = some (.lst ds)) :
  ∃ p xs,R[j]? = some p ∧ H p = some (.lst xs) ∧ F p = none ∧ (en.H0 p = none ∨ en.X0 p) ∧ RepAll K F R xs ds ∧ Rel K en F R (setW W p (some .tmp)) ⟨δ.vs,delS δ.S j⟩ σ H:=by
 obtain ⟨p,z1,z3,xs,z2,z4⟩:=r.ce j _ h
 have f:=rel_fOwn r z3
 have hn:=r.may z3 (by simp)
 refine ⟨p,xs,z1,z2,f,hn,z4,r.reown (δ':=⟨δ.vs,delS δ.S j⟩) f ⟨_,z2⟩ (.inr hn) rfl (fun i s e => .inl ⟨by rw [z3]; simp,e,.inl ⟨_,z3⟩⟩) (fun i c e => ?_)⟩
 by_cases y:i = j
 ·subst y
  have e':delS δ.S i i = some c:=e
  rw [delS_same] at e'; cases e'
 ·refine .inl ⟨by rw [z3]; intro q; injection q with q; injection q with q; exact y q.symm,?_⟩
  have e':delS δ.S j i = some c:=e
  rwa [delS_ne y] at e'
def dTake (i:Nat) (B:DSt):DSt:=fun DD δ => ∃ j ds,δ.vs[i]? = some (.val (.ref j)) ∧ δ.S j = some (.lst ds) ∧ B DD ⟨δ.vs.set i (.own ds),delS δ.S j⟩
theorem set_it {α:Type} {l:List α} {i:Nat} {x:α} (h:l[i]? = some x):l.set i x = l:=by
 refine List.ext_getElem? fun j => ?_
 rw [List.getElem?_set]
 split
 ·rename_i e
  subst e
  obtain ⟨lt,e⟩:=List.getElem?_eq_some_iff.mp h
  rw [if_pos lt,h]
 ·rfl
theorem s_take {X:Cx} {i:Nat} {st:Stmt} {B:DSt} (h:DStm X st B):DStm X st (dTake i B):=ps_of h fun D σ H ⟨en,F,R,W,δ,DD,r0,⟨j,ds,e1,e2,g0⟩,k⟩ => by
 obtain ⟨p,xs,z1,z2,f,n,q,r2⟩:=rel_takeC r0 e2
 obtain ⟨v,hv,hr⟩:=r0.sl i _ e1
 cases hr with
 | ref hz =>
  rw [hz] at z1
  obtain rfl:=Option.some.inj z1
  have il:i < σ.length:=(List.getElem?_eq_some_iff.mp hv).1
  have r3:=r2.own z2 setW_same n f q il
  rw [set_it hv] at r3
  exact ⟨en,F,R,_,_,DD,r3,g0,k⟩
section
variable {X:Cx} {e b:Expr} {p pos:Pos} {G:DG}
def dIsOwn (T:String) (i:Nat):DG:=fun δ Q => ∃ ds t,δ.vs[i]? = some (.own ds) ∧ kitB "list" T = some t ∧ Q (.bl t) δ
theorem d_isOwn {T:String} {i:Nat} (hg:Gl X "isinstance") (hm:X.mg "isinstance" = none) (he:PE X e (tVar i)) (ht:PE X b (tC (.ty T))) (hs:starEach [e,b] X.env = (false,eval e X.env) :: starEach [b] X.env:=by rfl) (hs2:starEach [b] X.env = (false,eval b X.env) :: starEach [] X.env:=by rfl) (hpl:(backTo pos (starEach [b] X.env)).any (·.1) = false:=by rfl) :
  DE X (.Call (.Name "isinstance" p) [e,b] [] pos) (dIsOwn T i):=pe_of (pe_callB (call_isB T) hg hm (by decide +kernel) (pa_cons he (pa_cons ht pa_nil hs2) hs) (by decide) (by decide) hs hpl) fun σ H Q ⟨en,F,R,W,δ,Kt,r0,⟨ds,t,e1,e2,g0⟩,k⟩ => by
 obtain ⟨a,xs,h1,h2,h3,h4⟩:=r0.sl i _ e1
 exact ⟨.ref a,h1,.ref a,"list",t,rfl,.base (.lst h2),e2,k _ _ _ _ _ _ _ g0 (fun _ _ e => e) (fun _ _ e => e) r0 (.bl _)⟩
abbrev DY:=DS → (PyData → DS → Prop) → Prop
def tY (K:PySem.W.Frag) (G:DY):TE:=fun σ H Q => ∃ en F R W δ Kt,Rel K en F R W δ σ H ∧ G δ Kt ∧ ∀ p δ' F' R' W' H' v,Kt p δ' → Same F F' → GD.Sub R R' → Rel K en F' R' W' δ' σ H' → Dp K H' v p → Q v H'
def YE (X:Cx) (e:Expr) (G:DY):Prop:=PE X e (tY X.K G)
theorem repAll_dp {K:PySem.W.Frag} {F H:Hp} {R:List Addr} (s:Same F H):∀ {vs:List V} {ds:List D},RepAll K F R vs ds → ∀ ps,pyDs ds = some ps → DpAll K H vs ps
 | _,_,.nil,ps,e => by
  simp only [pyDs,Option.some.injEq] at e
  subst e
  exact .nil
 | _,_,.cons (d:=d) (ds:=ds) a b,ps,e => by
  simp only [pyDs] at e
  cases q1:pyD d with
  | none => rw [q1] at e; cases e
  | some x =>
   cases q2:pyDs ds with
   | none => rw [q1,q2] at e; cases e
   | some y =>
    rw [q1,q2] at e
    obtain rfl:=Option.some.inj e
    exact .cons (a.dp s x q1) (repAll_dp s b y q2)
def slotY:Option Sl → Option PyData
 | some (.val d) => pyD d
 | some (.own ds) => (pyDs ds).map .list
 | _ => none
def yVar (i:Nat):DY:=fun δ Q => ∃ p,slotY δ.vs[i]? = some p ∧ Q p δ
theorem slot_dp {K:PySem.W.Frag} {en:En} {F:Hp} {R:List Addr} {W:GD.Own} {δ:DS} {σ:L2.St} {H:Hp} {i:Nat} {p:PyData} (r:Rel K en F R W δ σ H) (h:slotY δ.vs[i]? = some p):∃ v,σ[i]? = some (some v) ∧ Dp K H v p:=by
 cases e:δ.vs[i]? with
 | none => rw [e] at h; cases h
 | some s =>
  rw [e] at h
  cases s with
  | val d =>
   obtain ⟨v,h1,h2⟩:=r.sl i _ e
   exact ⟨v,h1,h2.dp r.fh p h⟩
  | own ds =>
   obtain ⟨a,xs,h1,h2,_,h4⟩:=r.sl i _ e
   have h':(pyDs ds).map PyData.list = some p:=h
   obtain ⟨ps,e1,rfl⟩:=Option.map_eq_some_iff.mp h'
   exact ⟨.ref a,h1,.lst (SqL.of h2) (repAll_dp r.fh h4 ps e1)⟩
  | no => cases h
  | bor ds => cases h
  | slf C ds => cases h
theorem y_var {i:Nat} (h:PE X e (tVar i)):YE X e (yVar i):=pe_of h fun σ H Q ⟨en,F,R,W,δ,Kt,r,⟨p,h1,h2⟩,k⟩ => by
 obtain ⟨v,e1,e2⟩:=slot_dp r h1
 exact ⟨v,e1,k _ _ _ _ _ _ _ h2 (fun _ _ e => e) (fun _ _ e => e) r e2⟩
def yRef (G:DG):DY:=fun δ Q => G δ fun d δ' => ∃ j ds ps,d = .ref j ∧ δ'.S j = some (.lst ds) ∧ pyDs ds = some ps ∧ Q (.list ps) δ'
theorem y_ref (h:DE X e G):YE X e (yRef G):=pe_of h fun σ H Q ⟨en,F,R,W,δ,Kt,r0,g0,k⟩ => by
 refine ⟨en,F,R,W,δ,_,r0,g0,?_⟩
 rintro d δ1 F1 R1 W1 H1 v ⟨j,ds,ps,rfl,e1,e2,g1⟩ s1 u1 r1 v1
 cases v1 with
 | ref hz =>
  obtain ⟨q,z1,z3,xs,z2,z4⟩:=r1.ce j _ e1
  rw [hz] at z1
  obtain rfl:=Option.some.inj z1
  exact k _ _ _ _ _ _ _ g1 s1 u1 r1 (.lst (SqL.of z2) (repAll_dp r1.fh z4 ps e2))
def yCmp (neg:Bool → Bool) (Ga:DY) (i:Nat):DG:=fun δ Q => Ga δ fun p δ1 => ∃ q,slotY δ1.vs[i]? = some q ∧ SeqAt.shaped p = true ∧ SeqAt.shaped q = true ∧ Q (.bl (neg (PyData.eqv p q))) δ1
theorem t_ycmp {K:PySem.W.Frag} {Ga:DY} {i:Nat} {neg:Bool → Bool} {r:R2} (hr:∀ x y H Q p q,Dp K H x p → Dp K H y q → SeqAt.shaped p = true → SeqAt.shaped q = true → Q (.bl (neg (PyData.eqv p q))) H → r x y H Q):∀ σ H Q,tD K (yCmp neg Ga i) σ H Q → tOp r (tY K Ga) (tVar i) σ H Q:=by
 rintro σ H Q ⟨en,F,R,W,δ,Kt,r0,g0,k⟩
 refine ⟨en,F,R,W,δ,_,r0,g0,?_⟩
 rintro p δ1 F1 R1 W1 H1 v ⟨q,h1,h2,h3,g1⟩ s1 u1 r1 v1
 obtain ⟨u,e1,e2⟩:=slot_dp r1 h1
 exact ⟨u,e1,hr _ _ _ _ _ _ v1 e2 h2 h3 (k _ _ _ _ _ _ _ g1 s1 u1 r1 (.bl _))⟩
theorem d_eqY {Ga:DY} {i j:Nat} (hr:Room j X.A) (ha:YE X e Ga) (hb:PE X b (tVar i)) (hm:behindInMarks .Eq b = false):DE X (.Compare e [.Eq] [b] pos) (yCmp id Ga i) :=
 pe_of (pe_cmpR (op_eqD hr.units) ha hb hm) (t_ycmp fun x y H Q p q h1 h2 h3 h4 h5 => ⟨p,q,h1,h2,h3,h4,h5⟩)
theorem dt_neY {Ga:DY} {i j:Nat} (hr:Room j X.A) (ha:YE X e Ga) (hb:PE X b (tVar i)) (hm:behindInMarks .NotEq b = false):DT X (.Compare e [.NotEq] [b] pos) (dTst (yCmp not Ga i)) :=
 pt_of (pt_cmpR (op_neD hr.units) ha hb hm) fun σ H Q h => by
  obtain ⟨en,F,R,W,δ,Kt,r0,g0,k⟩:=h
  refine t_ycmp (fun x y H Q p q h1 h2 h3 h4 h5 => ⟨p,q,h1,h2,h3,h4,h5⟩) σ H _ ⟨en,F,R,W,δ,_,r0,g0,?_⟩
  rintro d δ1 F1 R1 W1 H1 x ⟨c,rfl,kc⟩ s1 u1 r1 x1
  cases x1
  exact ⟨c,rfl,k c δ1 F1 R1 W1 H1 kc s1 u1 r1⟩
end
end
section
def noBor:List Sl → Bool
 | [] => true
 | .bor _ :: _ => false
 | .no :: r => noBor r
 | .val _ :: r => noBor r
 | .own _ :: r => noBor r
 | .slf _ _ :: r => noBor r
theorem noBor_get:∀ {l:List Sl} {i:Nat} {ds:List D},noBor l = true → l[i]? ≠ some (.bor ds)
 | [],_,_,_,e => by simp at e
 | .bor _ :: _,_,_,h,_ => by simp [noBor] at h
 | .no :: r,0,_,h,e => by simp at e
 | .val _ :: r,0,_,h,e => by simp at e
 | .own _ :: r,0,_,h,e => by simp at e
 | .slf _ _ :: r,0,_,h,e => by simp at e
 | .no :: r,i + 1,_,h,e => noBor_get (l:=r) (i:=i) h (by simpa using e)
 | .val _ :: r,i + 1,_,h,e => noBor_get (l:=r) (i:=i) h (by simpa using e)
 | .own _ :: r,i + 1,_,h,e => noBor_get (l:=r) (i:=i) h (by simpa using e)
 | .slf _ _ :: r,i + 1,_,h,e => noBor_get (l:=r) (i:=i) h (by simpa using e)
theorem rel_lend {K:PySem.W.Frag} {en:En} {F:Hp} {R:List Addr} {W:GD.Own} {δ:DS} {σ:L2.St} {H:Hp} {i:Nat} {ds:List D} (r:Rel K en F R W δ σ H) (h:δ.vs[i]? = some (.own ds)) :
  ∃ p xs,σ[i]? = some (some (.ref p)) ∧ H p = some (.lst xs) ∧ W p = some (.slot i) ∧ RepAll K F R xs ds ∧ Rel K en F R (setW W p none) ⟨δ.vs.set i (.bor ds),δ.S⟩ σ H:=by
 obtain ⟨p,xs,z1,z2,z3,z4⟩:=r.sl i _ h
 have f:=rel_fOwn r z3
 have hn:=r.may z3 (by simp)
 have il:i < δ.vs.length:=(List.getElem?_eq_some_iff.mp h).1
 refine ⟨p,xs,z1,z2,z3,z4,r.reown (δ':=⟨δ.vs.set i (.bor ds),δ.S⟩) f ⟨_,z2⟩ (.inr hn) (by simp) (fun j s e => ?_) (fun j c e => .inl ⟨by rw [z3]; simp,e⟩)⟩
 have e':(δ.vs.set i (.bor ds))[j]? = some s:=e
 by_cases y:i = j
 ·subst y
  rw [List.getElem?_set_self il] at e'
  obtain rfl:=Option.some.inj e'
  exact .inr ⟨p,xs,z1,.inl ⟨setW_same,.inl (.inl z2)⟩,z4⟩
 ·rw [List.getElem?_set_ne y] at e'
  exact .inl ⟨by rw [z3]; intro q; injection q with q; injection q with q; exact y q,e',.inr rfl⟩
theorem rel_back {K:PySem.W.Frag} {en:En} {F:Hp} {R:List Addr} {W:GD.Own} {δ:DS} {σ:L2.St} {H:Hp} {i:Nat} {ds:List D} {p:Addr} {xs:List V} (r:Rel K en F R W δ σ H) (hp:H p = some (.lst xs)) (f:F p = none) (hw:W p = none ∨ W p = some .tmp) (hn:en.H0 p = none ∨ en.X0 p)
  (z1:σ[i]? = some (some (.ref p))) (q:RepAll K F R xs ds) (nb:noBor (δ.vs.set i .no) = true) (il:i < δ.vs.length):Rel K en F R (setW W p (some (.slot i))) ⟨δ.vs.set i (.own ds),δ.S⟩ σ H:=by
 refine r.reown (δ':=⟨δ.vs.set i (.own ds),δ.S⟩) f ⟨_,hp⟩ (.inr hn) (by simp) (fun j s e => ?_) (fun j c e => .inl ⟨by rcases hw with h | h <;> rw [h] <;> simp,e⟩)
 have e':(δ.vs.set i (.own ds))[j]? = some s:=e
 by_cases y:i = j
 ·subst y
  rw [List.getElem?_set_self il] at e'
  obtain rfl:=Option.some.inj e'
  exact .inr ⟨p,xs,z1,hp,setW_same,q⟩
 ·rw [List.getElem?_set_ne y] at e'
  have nb':∀ es,s ≠ .bor es:=fun es z => by
   subst z
   refine noBor_get (i:=j) (ds:=es) nb ?_
   rw [List.getElem?_set_ne y]; exact e'
  have hs:=r.sl j s e'
  refine .inr ?_
  match s,nb',hs with
  | .no,_,_ => trivial
  | .val d,_,h => exact h
  | .own es,_,⟨b,ys,h1,h2,h3,h4⟩ => exact ⟨b,ys,h1,h2,by rw [setW_ne (fun z => by subst z; rcases hw with h | h <;> rw [h] at h3 <;> cases h3)]; exact h3,h4⟩
  | .slf C es,_,⟨b,dx,ys,h1,h2,h3,h4⟩ => exact ⟨b,dx,ys,h1,h2,by rw [setW_ne (fun z => by subst z; rcases hw with h | h <;> rw [h] at h3 <;> cases h3)]; exact h3,h4⟩
  | .bor es,n,_ => exact absurd rfl (n es)
def nLend (i:Nat) (G:DN):DN:=fun δ Q => ∃ ds,δ.vs[i]? = some (.own ds) ∧ G ⟨δ.vs.set i (.bor ds),δ.S⟩ fun es δ' => i < δ'.vs.length ∧ noBor (δ'.vs.set i .no) = true ∧ Q es ⟨δ'.vs.set i (.own ds),δ'.S⟩
theorem t_lend {K:PySem.W.Frag} {i:Nat} {G:DN}:∀ σ H Q,tNw K (nLend i G) σ H Q → tNw K G σ H Q:=by
 rintro σ H Q ⟨en,F,R,W,δ,Kt,r0,⟨ds,h1,g0⟩,k⟩
 obtain ⟨p,xs,z1,z2,z3,z4,r1⟩:=rel_lend r0 h1
 have hn:=r0.may z3 (by simp)
 refine ⟨_,F,R,_,_,_,r1.rebase,g0,?_⟩
 rintro es δ' F' R' W' H' q ys ⟨il,nb,g1⟩ s u r2 hq fq wq nq x2
 have nx:¬ (base F R (setW W p none) H).X0 p:=fun ⟨w,z,y⟩ => by rw [setW_same] at z; cases z
 have hp':H' p = some (.lst xs):=r2.kp p _ z2 nx
 have f':F' p = none:=by
  cases e:F' p with
  | none => rfl
  | some v =>
   rcases r2.fn p v e with ⟨z,y⟩ | y | y
   ·have y:F p = some z:=y; rw [rel_fOwn r0 z3] at y; cases y
   ·have y:H p = none:=y; rw [z2] at y; cases y
   ·exact absurd y nx
 have w':W' p = none ∨ W' p = some .tmp:=by
  cases e:W' p with
  | none => exact .inl rfl
  | some w =>
   rcases (r2.wn p w e).2 with rfl | y | y
   ·exact .inr rfl
   ·have y:H p = none:=y; rw [z2] at y; cases y
   ·exact absurd y nx
 have ne:q ≠ p:=fun z => by
  subst z
  have nq:H q = none:=nq
  rw [z2] at nq; cases nq
 have r3:=rel_back (r1.trans r2) hp' f' w' hn z1 (z4.mono s u) nb il
 exact k _ _ _ _ _ _ q ys g1 s u r3 hq fq (by rw [setW_ne ne]; exact wq) (r0.dm _ nq) x2
section
variable {X:Cx} {tg:Expr}
theorem n_lend {e:Expr} {i:Nat} {G:DN} (h:NE X e G):NE X e (nLend i G):=pe_of h fun σ H Q => t_lend σ H Q
end
end
end GU
section
open PySem L2 GB G1 Tt GD
local macro_rules | `(tactic| simp? only [$xs,*]) => `(tactic| simp only [dSeq, dNext, dRet, dRetN, dDrop, dIfS, dSet, dOwn, dAsg, dgName, dgTup, dgUnl, dgCons, dgNil, dVar, dC, dOp, dTst, dAnd, dOr, dNot, dAndV, dOrV, dNotV, dIf, aNil, aV, aB, aSl, dTup, nLst, dLst, sqOf, sqSl, slotSeq, dIxSl, Lent, oNo, oSm, dSlS, nSl, nSlSl, nCat, dFld, dApp, isOwn, dIns, dPop, dPop0, dExt, dFrz, dU, dLen, dTupL, lqOf, lqSl, dAll, dIn, flats', dJoin, dSetF, dGet, dctOf, dPut, dPairs, keysOf, dDispC, dCellL, dIxC, dPutL, dIsB, dIsO, tyD_non, tyD_bl, tyD_int, tyD_str, tyD_tup, tyD_lst, tyO_non, tyO_bl, tyO_int, tyO_str, tyO_tup, tyO_lst, dCmpO, dStrO, dCall, dCall0, lendAll, lend, dMeth, dMeth0, dMake, dCallN, arr, consO, pick, dMakeN, dCallR, valsOf, dFor, iRng, iRngB, iTxt, bSl, borSeq, iZp, arSeqs, arSeq, endsD, startD, dYes, gLt, gLe, gGt, gGe,  List.getElem?_cons_zero, List.getElem?_cons_succ, List.getElem?_nil, List.set_cons_zero, List.set_cons_succ, List.length_cons, List.length_nil, Option.some.injEq, exists_eq_left', exists_eq_left, exists_eq', true_and, and_true, Sl.val.injEq, Sl.own.injEq, Sl.bor.injEq, GD.D.str.injEq, GD.D.int.injEq, GD.D.bl.injEq, GD.D.lst.injEq, GD.D.tup.injEq, GD.D.ref.injEq, GD.D.obj.injEq, List.cons.injEq, List.cons_append, List.nil_append, List.append_nil, List.replicate, Option.map_some, List.map_cons, List.map_nil, Nat.reduceAdd, Nat.reduceSub, Nat.reduceLT, Nat.reduceLeDiff, Nat.lt_irrefl, decide_eq_true_eq, Bool.not_eq_true', decide_eq_false_iff_not, List.take_succ_cons, List.take_zero, List.drop_succ_cons, List.drop_zero, updS_same, updS_updS, delS_updS, beq_self_eq_true, Bool.false_eq_true, if_true, if_false, ite_true, ite_false, id, and_self, exists_and_left, exists_const, eq_self, decide_true, decide_false, Bool.not_true, Bool.not_false, Nat.le_refl, szle, szlt, atI_map, Option.map_eq_some_iff, ex_map, strs_eq, bls_eq, flats_strs, inV_strs, fld_obj, objFs_obj, Int.reduceNeg, Int.reduceLT, Int.reduceLE, Int.reducePow, Nat.zero_le, List.isEmpty_cons, Option.isSome_some, Option.isSome_none, nLc, e_gI, e_gI0, e_gEqI, e_gEqS, e_gEqB, e_gEqN, e_gEqSN, e_gEqIN, e_gIsN, e_isNn, e_isNs, e_isNi, e_isNb, e_isNt, e_isNl, e_isNo, e_isNr, e_gCat, e_gIxL, e_gIxK, e_gIxT, e_gIxS, e_gIntI, e_gIntB, e_gAbs, e_gStrI, e_gStrS, e_gLenS, e_gTupT, e_gNeg, e_gMulS, e_gInS, e_seqL, e_seqK, e_seqT, e_lstL, e_lstK, e_keyI, e_keyS, e_fN, e_fS, e_fI, e_fB, Cell.ins.injEq, Cell.dct.injEq, Cell.lst.injEq, dAndX, dPutO, wipeD, GU.nLend, GU.dPropM, GU.dMaxD, GU.nSortU, GU.nRows, GU.dTake, GU.dIsOwn, GU.yVar, GU.yRef, GU.yCmp, GU.slotY, dMaxL, dInK, dTst, dChain, dPart, e_gPart, dAugI, dAsg2, dCMeth, dEnumS, $xs,*])
local macro_rules | `(tactic| one_sign) => `(tactic| simp only [dSeq, dNext, dRet, dRetN, dDrop, dIfS, dSet, dOwn, dAsg, dgName, dgTup, dgUnl, dgCons, dgNil, dVar, dC, dOp, dTst, dAnd, dOr, dNot, dAndV, dOrV, dNotV, dIf, aNil, aV, aB, aSl, dTup, nLst, dLst, sqOf, sqSl, slotSeq, dIxSl, Lent, oNo, oSm, dSlS, nSl, nSlSl, nCat, dFld, dApp, isOwn, dIns, dPop, dPop0, dExt, dFrz, dU, dLen, dTupL, lqOf, lqSl, dAll, dIn, flats', dJoin, dSetF, dGet, dctOf, dPut, dPairs, keysOf, dDispC, dCellL, dIxC, dPutL, dIsB, dIsO, tyD_non, tyD_bl, tyD_int, tyD_str, tyD_tup, tyD_lst, tyO_non, tyO_bl, tyO_int, tyO_str, tyO_tup, tyO_lst, dCmpO, dStrO, dCall, dCall0, lendAll, lend, dMeth, dMeth0, dMake, dCallN, arr, consO, pick, dMakeN, dCallR, valsOf, dFor, iRng, iRngB, iTxt, bSl, borSeq, iZp, arSeqs, arSeq, endsD, startD, dYes, gLt, gLe, gGt, gGe,  List.getElem?_cons_zero, List.getElem?_cons_succ, List.getElem?_nil, List.set_cons_zero, List.set_cons_succ, List.length_cons, List.length_nil, Option.some.injEq, exists_eq_left', exists_eq_left, exists_eq', true_and, and_true, Sl.val.injEq, Sl.own.injEq, Sl.bor.injEq, GD.D.str.injEq, GD.D.int.injEq, GD.D.bl.injEq, GD.D.lst.injEq, GD.D.tup.injEq, GD.D.ref.injEq, GD.D.obj.injEq, List.cons.injEq, List.cons_append, List.nil_append, List.append_nil, List.replicate, Option.map_some, List.map_cons, List.map_nil, Nat.reduceAdd, Nat.reduceSub, Nat.reduceLT, Nat.reduceLeDiff, Nat.lt_irrefl, decide_eq_true_eq, Bool.not_eq_true', decide_eq_false_iff_not, List.take_succ_cons, List.take_zero, List.drop_succ_cons, List.drop_zero, updS_same, updS_updS, delS_updS, beq_self_eq_true, Bool.false_eq_true, if_true, if_false, ite_true, ite_false, id, and_self, exists_and_left, exists_const, eq_self, decide_true, decide_false, Bool.not_true, Bool.not_false, Nat.le_refl, szle, szlt, atI_map, Option.map_eq_some_iff, ex_map, strs_eq, bls_eq, flats_strs, inV_strs, fld_obj, objFs_obj, Int.reduceNeg, Int.reduceLT, Int.reduceLE, Int.reducePow, Nat.zero_le, List.isEmpty_cons, Option.isSome_some, Option.isSome_none, nLc, e_gI, e_gI0, e_gEqI, e_gEqS, e_gEqB, e_gEqN, e_gEqSN, e_gEqIN, e_gIsN, e_isNn, e_isNs, e_isNi, e_isNb, e_isNt, e_isNl, e_isNo, e_isNr, e_gCat, e_gIxL, e_gIxK, e_gIxT, e_gIxS, e_gIntI, e_gIntB, e_gAbs, e_gStrI, e_gStrS, e_gLenS, e_gTupT, e_gNeg, e_gMulS, e_gInS, e_seqL, e_seqK, e_seqT, e_lstL, e_lstK, e_keyI, e_keyS, e_fN, e_fS, e_fI, e_fB, Cell.ins.injEq, Cell.dct.injEq, Cell.lst.injEq, dAndX, dPutO, wipeD, GU.nLend, GU.dPropM, GU.dMaxD, GU.nSortU, GU.nRows, GU.dTake, GU.dIsOwn, GU.yVar, GU.yRef, GU.yCmp, GU.slotY, dMaxL, dInK, dTst, dChain, dPart, e_gPart, dAugI, dAsg2, dCMeth, dEnumS])
local macro_rules | `(tactic| one_place) => `(tactic| exact ⟨rfl, rfl, rfl, by decide +kernel, rfl, by decide +kernel, by decide +kernel⟩)
local macro_rules | `(tactic| one_item) => `(tactic| first | decide | omega)
namespace K02
section
def top (i:Nat):Stmt:=PySem.Challenge.pw_splitplans_k02_second_stories_of_terms.main.body.getD i (.Pass ⟨0,0,0,0⟩)
abbrev s_written:Stmt:=top 12
abbrev N_written:List Str:=["kind","name","texts","marked"]
theorem sc_written:FnScope N_written ["kind","name","texts","marked"] (defScope s_written):=by one_place
abbrev s_Term_init:Stmt:=inClass (top 13) 0
abbrev N_Term_init:List Str:=["self","kind","name","parts","marked","part"]
theorem sc_Term_init:FnScope N_Term_init ["self","kind","name","parts","marked"] (defScope s_Term_init):=by one_place
abbrev s_Term_depth:Stmt:=inClass (top 13) 2
abbrev N_Term_depth:List Str:=["self","part"]
theorem sc_Term_depth:FnScope N_Term_depth ["self"] (defScope s_Term_depth):=by one_place
abbrev s_Term_second:Stmt:=inClass (top 13) 3
abbrev N_Term_second:List Str:=["self","part"]
theorem sc_Term_second:FnScope N_Term_second ["self"] (defScope s_Term_second):=by one_place
abbrev s_Term_row_names:Stmt:=inClass (top 13) 5
abbrev N_Term_row_names:List Str:=["self","term"]
theorem sc_Term_row_names:FnScope N_Term_row_names ["self"] (defScope s_Term_row_names):=by one_place
abbrev s_Term_eq:Stmt:=inClass (top 13) 6
abbrev N_Term_eq:List Str:=["self","other"]
theorem sc_Term_eq:FnScope N_Term_eq ["self","other"] (defScope s_Term_eq):=by one_place
abbrev s_Term_str:Stmt:=inClass (top 13) 7
abbrev N_Term_str:List Str:=["self"]
theorem sc_Term_str:FnScope N_Term_str ["self"] (defScope s_Term_str):=by one_place
abbrev s_row_term:Stmt:=top 14
abbrev N_row_term:List Str:=["table","marked"]
theorem sc_row_term:FnScope N_row_term ["table","marked"] (defScope s_row_term):=by one_place
abbrev s_column_term:Stmt:=top 15
abbrev N_column_term:List Str:=["table","name","marked"]
theorem sc_column_term:FnScope N_column_term ["table","name","marked"] (defScope s_column_term):=by one_place
abbrev s_place_term:Stmt:=top 16
abbrev N_place_term:List Str:=["table","marked"]
theorem sc_place_term:FnScope N_place_term ["table","marked"] (defScope s_place_term):=by one_place
abbrev s_zero_term:Stmt:=top 17
abbrev N_zero_term:List Str:=[]
theorem sc_zero_term:FnScope N_zero_term [] (defScope s_zero_term):=by one_place
abbrev s_function_term:Stmt:=top 18
abbrev N_function_term:List Str:=["name","parts"]
theorem sc_function_term:FnScope N_function_term ["name","parts"] (defScope s_function_term):=by one_place
abbrev s_rule_term:Stmt:=top 19
abbrev N_rule_term:List Str:=["name","parts"]
theorem sc_rule_term:FnScope N_rule_term ["name","parts"] (defScope s_rule_term):=by one_place
abbrev s_law_pen:Stmt:=top 26
abbrev N_law_pen:List Str:=["_law_script"]
theorem sc_law_pen:FnScope N_law_pen ["_law_script"] (defScope s_law_pen):=by one_place
abbrev s_law_draw:Stmt:=top 27
abbrev N_law_draw:List Str:=["_law_pen_here","_law_many","_law_digit","_law_script","_law_at","_law_cell","_law_number"]
theorem sc_law_draw:FnScope N_law_draw ["_law_pen_here","_law_many"] (defScope s_law_draw):=by one_place
abbrev s_law_words:Stmt:=top 28
abbrev N_law_words:List Str:=["_law_words_here"]
theorem sc_law_words:FnScope N_law_words [] (defScope s_law_words):=by one_place
abbrev s_law_names:Stmt:=top 29
abbrev N_law_names:List Str:=["_law_pen_here","_law_many","_law_letters","_law_signs","_law_base","_law_at","_law_first","_law_step","_law_way","_law_found","_law_k","_law_sign","_law_name","_law_turn"]
theorem sc_law_names:FnScope N_law_names ["_law_pen_here","_law_many"] (defScope s_law_names):=by one_place
abbrev s_law_text:Stmt:=top 30
abbrev N_law_text:List Str:=["_law_model","_law_kind","_law_name","_law_parts","_law_marked","_law_texts","_law_part"]
theorem sc_law_text:FnScope N_law_text ["_law_model"] (defScope s_law_text):=by one_place
abbrev s_law_lot:Stmt:=top 31
abbrev N_law_lot:List Str:=["_law_pen_here","_law_names_here"]
theorem sc_law_lot:FnScope N_law_lot ["_law_pen_here"] (defScope s_law_lot):=by one_place
abbrev s_law_row:Stmt:=top 32
abbrev N_law_row:List Str:=["_law_pen_here","_law_lot_here"]
theorem sc_law_row:FnScope N_law_row ["_law_pen_here","_law_lot_here"] (defScope s_law_row):=by one_place
abbrev s_law_column:Stmt:=top 33
abbrev N_law_column:List Str:=["_law_pen_here","_law_lot_here"]
theorem sc_law_column:FnScope N_law_column ["_law_pen_here","_law_lot_here"] (defScope s_law_column):=by one_place
abbrev s_law_value:Stmt:=top 34
abbrev N_law_value:List Str:=["_law_pen_here","_law_lot_here","_law_levels","_law_value_here","_law_k","_law_parts","_law_turn","_law_more"]
theorem sc_law_value:FnScope N_law_value ["_law_pen_here","_law_lot_here","_law_levels"] (defScope s_law_value):=by one_place
abbrev s_law_term:Stmt:=top 35
abbrev N_law_term:List Str:=["_law_pen_here","_law_lot_here","_law_kind","_law_levels","_law_parts","_law_turn"]
theorem sc_law_term:FnScope N_law_term ["_law_pen_here","_law_lot_here"] (defScope s_law_term):=by one_place
abbrev s_law_applied:Stmt:=top 36
abbrev N_law_applied:List Str:=["_law_kind","_law_name","_law_built_here"]
theorem sc_law_applied:FnScope N_law_applied ["_law_kind","_law_name","_law_built_here"] (defScope s_law_applied):=by one_place
abbrev s_law_built:Stmt:=top 37
abbrev N_law_built:List Str:=["_law_model","_law_kind","_law_name","_law_parts","_law_marked","_law_part"]
theorem sc_law_built:FnScope N_law_built ["_law_model"] (defScope s_law_built):=by one_place
abbrev s_law_is:Stmt:=top 38
abbrev N_law_is:List Str:=["_law_term_here","_law_model","_law_kind","_law_name","_law_parts","_law_marked","_law_part","_law_inner"]
theorem sc_law_is:FnScope N_law_is ["_law_term_here","_law_model"] (defScope s_law_is):=by one_place
abbrev s_law_depth:Stmt:=top 39
abbrev N_law_depth:List Str:=["_law_model","_law_part"]
theorem sc_law_depth:FnScope N_law_depth ["_law_model"] (defScope s_law_depth):=by one_place
abbrev s_law_second:Stmt:=top 40
abbrev N_law_second:List Str:=["_law_model","_law_kind","_law_name","_law_parts","_law_marked","_law_part"]
theorem sc_law_second:FnScope N_law_second ["_law_model"] (defScope s_law_second):=by one_place
abbrev s_law_rows:Stmt:=top 41
abbrev N_law_rows:List Str:=["_law_model","_law_found","_law_part"]
theorem sc_law_rows:FnScope N_law_rows ["_law_model"] (defScope s_law_rows):=by one_place
abbrev s_law_right:Stmt:=top 42
abbrev N_law_right:List Str:=["_law_term_here","_law_model","_law_depth_here","_law_second_here","_law_due","_law_told","_law_text_here"]
theorem sc_law_right:FnScope N_law_right ["_law_term_here","_law_model"] (defScope s_law_right):=by one_place
abbrev s_law:Stmt:=top 43
abbrev N_law:List Str:=["_law_script","_law_pen_here","_law_lot_here","_law_models","_law_k","_law_model"]
theorem sc_law:FnScope N_law ["_law_script"] (defScope s_law):=by one_place
def words:List Str:=["table","key","dealt","anyhow","copied","zero","scan","where","compute","equal","keep","distinct","group","with","count","sum","sort","own","split","broadcast","gather","merge","join","semi","anti","union","answer","in","self"]
def letters:Str := "abcdefghijklmnopqrstuvwxyz"
def signs:Str:=letters ++ ("0123456789_" : Str)
structure Txt (K:PySem.W.Frag) (mg:Str → Option Value) (C aW:Addr):Prop where
 n_any:mg "any" = none
 n_enumerate:mg "enumerate" = none
 g_WORDS:∃ u,mg "WORDS" = some u ∧ RelV (.ref aW) u
 r_WORDS:∀ F R,GD.Rep K F R (.ref aW) (.tup (words.map GD.D.str))
 g_FIRST:∃ u,mg "FIRST" = some u ∧ RelV (.str letters) u
 g_LATER:∃ u,mg "LATER" = some u ∧ RelV (.str signs) u
 g_MOST_SIGNS:∃ u,mg "MOST_SIGNS" = some u ∧ RelV (.int 8) u
 g_MOST_PARTS:∃ u,mg "MOST_PARTS" = some u ∧ RelV (.int 3) u
 n_int:mg "int" = none
 n_len:mg "len" = none
 n_abs:mg "abs" = none
 n_list:mg "list" = none
 n_range:mg "range" = none
 n_isinstance:mg "isinstance" = none
 n_all:mg "all" = none
 n_str:mg "str" = none
 n_tuple:mg "tuple" = none
 n_bool:mg "bool" = none
 n_zip:mg "zip" = none
 n_max:mg "max" = none
 n_sorted:mg "sorted" = none
 n_set:mg "set" = none
 k_Term:mg "Term" = some (.ref C)
structure TrmF (K:PySem.W.Frag) (C:Addr):Prop where
 oc:OwnC K C
 kSelf:PySem.W.kitOne K (.ref C) (.ref C) = some true
 kOther:∀ s ∈ ["str","NoneType","int","list","tuple","bool"],PySem.W.kitOne K (.type s) (.ref C) = some false
 fSelf:PySem.W.notFirst K C (.ref C) = true
 fOther:∀ s ∈ ["str","NoneType","int","list","tuple","bool"],PySem.W.notFirst K C (.type s) = true
 ne:PySem.W.findIn K (.ref C) "__ne__" = some (some (.builtin "object.__ne__"))
 mks:PySem.W.makesIn K C = true
 a_kind:Cls K C ∧ NoAttr K C "kind"
 a_name:Cls K C ∧ NoAttr K C "name"
 a_parts:Cls K C ∧ NoAttr K C "parts"
 a_marked:Cls K C ∧ NoAttr K C "marked"
 a_text:Cls K C ∧ NoAttr K C "text"
def Short (ts:List Str) (name:Str):Prop:=name.length ≤ 1000 ∧ ts.length ≤ 10 ∧ ∀ x ∈ ts,x.length ≤ 100000
def phWritten:Ph:=fun args S Kt => ∃ (kind name:Str) (ts:List Str) (m:Bool),args = [.val (.str kind),.val (.str name),.val (.lst (ts.map GD.D.str)),.val (.bl m)] ∧ Short ts name ∧ (kind = "column" ∨ kind = "place" → ts ≠ []) ∧ Kt (.str (wr kind name ts m)) S
section
variable {P:Program} {w:World} {K:PySem.W.Frag} {mg:Str → Option Value} {base:Heap} {C aW:Addr}
theorem cWritten (Df:Dfn K mg "written" s_written) (T:Txt K mg C aW):Cal P w K mg base 1 "written" (spD K phWritten):=by
 refine dcal Df sc_written (fun _ _ _ _ _ _ us hl => match us,hl with | [_,_,_,_],_ => rfl) (fun args S Kt h => ?_) (fun f cdv A outer s H E hr => ⟨_,(s_cons (s_if (dt_cmp op_eq l_eq (d_v (pv 0)) d_str (nomark _)) (s_one (s_ret (d_if (dt_val (d_v (pv 3))) (d_cat (d_v (pv 1)) d_str) (d_v (pv 1))))) s_nil)
   (s_cons (s_if (dt_cmp op_eq l_eq (d_v (pv 0)) d_str (nomark _)) (s_one (s_ret (d_cat (d_cat (d_ix (d_v (pv 2)) d_int (fun _ _ => rfl)) d_str) (d_v (pv 1))))) s_nil)
   (s_cons (s_if (dt_cmp op_eq l_eq (d_v (pv 0)) d_str (nomark _)) (s_one (s_ret (d_cat d_str (d_ix (d_v (pv 2)) d_int (fun _ _ => rfl))))) s_nil)
   (s_cons (s_if (dt_cmp op_eq l_eq (d_v (pv 0)) d_str (nomark _)) (s_one (s_ret d_str)) s_nil)
   (s_cons (s_if (dt_cmp op_eq l_eq (d_v (pv 0)) d_str (nomark _)) (s_one (s_ret (d_cat (d_cat (d_cat (d_v (pv 1)) d_str) (d_join d_str (s_s (pv 2)))) d_str))) s_nil)
   (s_one (s_ret (d_cat (d_cat (d_cat (d_v (pv 1)) d_str) (d_join d_str (s_s (pv 2)))) d_str)))))))),fun args S Kt h => ?_⟩)
 ·obtain ⟨kind,name,ts,m,rfl,_⟩:=h; rfl
 ·obtain ⟨kind,name,ts,m,rfl,sh,ne,k⟩:=h
  obtain ⟨s1,s2,s3⟩:=sh
  have l1:Str.length "'" = 1 ∧ Str.length "." = 1 ∧ Str.length "@" = 1 ∧ Str.length "(" = 1 ∧ Str.length ")" = 1 ∧ Str.length "[" = 1 ∧ Str.length "]" = 1 ∧ Str.length ", " = 2:=by decide +kernel
  have la:∀ x y:Str,(x ++ y).length = x.length + y.length:=fun x y => by rw [TL.len_tl,TL.tl_append,List.length_append,← TL.len_tl,← TL.len_tl]
  have js:(ts.map (·.length)).sum + ts.length * Str.length ", " ≤ 16777216 ∧ (Txt.join ", " ts).length ≤ 1100000:=by
   have h1:=sum_leN 100000 ts s3
   have h2:=join_len ", " ts
   rw [l1.2.2.2.2.2.2.2] at h2 ⊢
   constructor <;> omega
  one_sign
  have hd:ts ≠ [] → ∃ a,atI ts 0 = some a ∧ ts.headD "" = a ∧ a.length ≤ 100000:=fun h => by
   cases ts with
   | nil => exact absurd rfl h
   | cons a r => exact ⟨a,atI_nat (j:=0) rfl,rfl,s3 a (List.mem_cons_self ..)⟩
  unfold wr at k
  split
  ·rename_i h
   rw [if_pos h] at k
   split
   ·rename_i h2; rw [h2] at k; exact ⟨by omega,k⟩
   ·rename_i h2; rw [if_neg h2] at k; exact k
  ·rename_i h1
   rw [if_neg h1] at k
   split
   ·rename_i h
    rw [if_pos h] at k
    obtain ⟨a,e1,e2,e3⟩:=hd (ne (.inl h))
    rw [e2] at k
    exact ⟨a,e1,by omega,by rw [la]; omega,k⟩
   ·rename_i h2
    rw [if_neg h2] at k
    split
    ·rename_i h
     rw [if_pos h] at k
     obtain ⟨a,e1,e2,e3⟩:=hd (ne (.inr h))
     rw [e2] at k
     exact ⟨a,e1,by omega,k⟩
    ·rename_i h3
     rw [if_neg h3] at k
     split
     ·rename_i h; rw [if_pos h] at k; exact k
     ·rename_i h4
      rw [if_neg h4] at k
      split
      ·rename_i h
       rw [if_pos h] at k
       have:=js.2
       exact ⟨by omega,js.1,by rw [la]; omega,by rw [la,la]; omega,k⟩
      ·rename_i h
       rw [if_neg h] at k
       have:=js.2
       exact ⟨by omega,js.1,by rw [la]; omega,by rw [la,la]; omega,k⟩
def tmF (k n:Str) (ps:List GD.D) (m:Bool) (t:Str):List (Str × GD.D):=[("kind",.str k),("name",.str n),("parts",.lst ps),("marked",.bl m),("text",.str t)]
mutual
def tmD (C:Addr):Tm → GD.D
 | .mk kind name parts m => .obj C (tmF kind name (tmDs C parts) m (wr kind name (Tm.texts parts) m))
def tmDs (C:Addr):List Tm → List GD.D
 | [] => []
 | t :: ts => tmD C t :: tmDs C ts
end
theorem tmDs_map (C:Addr):∀ ts:List Tm,tmDs C ts = ts.map (tmD C)
 | [] => rfl
 | t :: ts => by rw [tmDs,tmDs_map C ts]; rfl
theorem tmD_eq (C:Addr) (k n:Str) (ts:List Tm) (m:Bool):tmD C (.mk k n ts m) = .obj C (tmF k n (ts.map (tmD C)) m (wr k n (ts.map Tm.text) m)):=by rw [tmD,tmDs_map,texts_map]
theorem tmD_text (C:Addr) (S:Sto) (t:Tm):fld S C "text" (tmD C t) = some (.str t.text):=by
 cases t with
 | mk k n ts m => rw [tmD_eq,fld_obj,Tm.text,texts_map]; rfl
def phTerm (C:Addr):Ph:=fun args S Kt => ∃ (i:Nat) (kind name:Str) (ts:List Tm) (m:Bool),args = [.val (.ref i),.val (.str kind),.val (.str name),.bor (ts.map (tmD C)),.val (.bl m)] ∧ S i = some (.ins C []) ∧ Short (ts.map Tm.text) name ∧ (kind = "column" ∨ kind = "place" → ts ≠ []) ∧
 Kt .non (updS S i (.ins C (tmF kind name (ts.map (tmD C)) (decide (kind = "row") && m) (wr kind name (ts.map Tm.text) (decide (kind = "row") && m)))))
theorem bTerm (T:Txt K mg C aW) (F:TrmF K C) (cWritten:Cal P w K mg base 1 "written" (spD K phWritten)) (f:Addr) (cdv:Value) (A:Around) (outer:List Env) (s:Shared) (H:Hp) (E:XK) (hr:Room 1 (A.deeper (PyProof.Rows.envOfC "Term.__init__" (defScope s_Term_init) s.heap.objs.size f cdv))) :
  ∃ G,DSts (cxOf CX0 P w K mg base N_Term_init "Term.__init__" (defScope s_Term_init) f cdv A outer s H E).nox (defBody s_Term_init) G ∧ ∀ args S Kt,phTerm C args S Kt → G (endsD Kt) ⟨startD N_Term_init.length args,S⟩:=by
 refine ⟨_,(s_cons (s_setF F.a_kind (d_v (pv 0)) (d_v (pv 1)))
   (s_cons (s_setF F.a_name (d_v (pv 0)) (d_v (pv 2)))
   (s_cons (s_setF F.a_parts (d_v (pv 0)) (d_n (n_list (by rfl) T.n_list (s_s (pv 3)))))
   (s_cons (s_setF F.a_marked (d_v (pv 0)) (d_andX (d_cmp op_eq l_eq (d_v (pv 1)) d_str (nomark _)) (pv 4)))
   (s_one (s_setF F.a_text (d_v (pv 0)) (d_call cWritten hr (by one_item) (by rfl) (a_v (d_v (pv 1)) (a_v (d_v (pv 2)) (a_v (d_n (n_lc (own:=[("part",5)]) (by rfl) sc_Term_init.nd (i_b (b_s (pv 3))) (blkOk_by (own:=[("part",5)]) (N:=N_Term_init) (sc:=defScope s_Term_init) (by decide +kernel)) (fun _ _ _ _ _ => g_name (pg_name (i:=5) sc_Term_init.nd rfl (Or.inl rfl))) (fun _ _ _ _ _ => ts_nil) (fun _ _ _ _ _ => d_fld F.a_text (d_v (pv 5))) (by simp))) (a_v (d_v (pv 4)) a_nil))))))))))),fun args S Kt h => ?_⟩
 obtain ⟨i,kind,name,ts,m,rfl,hS,sh,ne,k⟩:=h
 have l0:ts.length ≤ 10:=by have:=sh.2.1; rwa [List.length_map] at this
 simp? only [hS]
 refine ⟨Nat.le_of_ble_eq_true rfl,Nat.le_of_ble_eq_true rfl,Nat.le_of_ble_eq_true rfl,lc_map ts (tmD C) (fun t => .str t.text) rfl rfl (fun i t hi => ?_) ?_⟩
 ·simp? only [tmD_text]
  exact step1 hi (Nat.le_trans l0 (by decide)) rfl rfl rfl
 ·one_sign
  refine ⟨kind,name,ts.map Tm.text,m,by simp [Function.comp_def],sh,fun z => by simpa using ne z,?_⟩
  one_sign
  refine ⟨Nat.le_of_ble_eq_true rfl,?_⟩
  rw [wr_mark] at k
  exact k
theorem phTerm_len {args:List Sl} {S:Sto} {Kt:GD.D → Sto → Prop} (h:phTerm C args S Kt):args.length = 5:=by
 obtain ⟨i,kind,name,ts,m,rfl,_⟩:=h; rfl
abbrev TermK (P:Program) (w:World) (K:PySem.W.Frag) (mg:Str → Option Value) (base:Heap) (C:Addr) (n:Nat) (ks:List Str) (src:List Src):Prop:=KMk P w K mg base 2 "Term" C n ks (fun vs zs => arr src vs [.bl false] zs) (spD K (phTerm C))
theorem kT4 (Df:MthN K C "__init__" "Term.__init__" s_Term_init [.bl false]) (Kc:Kls K mg "Term" C) (T:Txt K mg C aW) (F:TrmF K C) (cWritten:Cal P w K mg base 1 "written" (spD K phWritten)):TermK P w K mg base C 4 [] [.p 0,.p 1,.p 2,.p 3,.p 4] :=
 dkmkN Df Kc sc_Term_init (fun _ _ _ h => phTerm_len h) (bTerm T F cWritten) 4 [] _ (by simp) (fun _ _ _ _ _ _ _ us its ws h1 h2 h3 => match us,h1,its,h2,ws,h3 with | [_,_,_,_,_],_,[_],_,[],_ => ⟨_,rfl,rfl⟩)
theorem kT3 (Df:MthN K C "__init__" "Term.__init__" s_Term_init [.bl false]) (Kc:Kls K mg "Term" C) (T:Txt K mg C aW) (F:TrmF K C) (cWritten:Cal P w K mg base 1 "written" (spD K phWritten)):TermK P w K mg base C 3 [] [.p 0,.p 1,.p 2,.p 3,.d 0] :=
 dkmkN Df Kc sc_Term_init (fun _ _ _ h => phTerm_len h) (bTerm T F cWritten) 3 [] _ (by simp) (fun _ _ _ _ _ _ _ us its ws h1 h2 h3 => match us,h1,its,h2,ws,h3 with | [_,_,_,_],_,[_],_,[],_ => ⟨_,rfl,rfl⟩)
def phRow (C:Addr):Ph:=fun args S Kt => ∃ (t:Str) (m:Bool),args = [.val (.str t),.val (.bl m)] ∧ t.length ≤ 1000 ∧ Kt (tmD C (.mk "row" t [] m)) S
theorem bRow (T:Txt K mg C aW) (kT4:TermK P w K mg base C 4 [] [.p 0,.p 1,.p 2,.p 3,.p 4]) (f:Addr) (cdv:Value) (A:Around) (outer:List Env) (s:Shared) (H:Hp) (E:XK) (hr:Room 3 (A.deeper (PyProof.Rows.envOfC "row_term" (defScope s_row_term) s.heap.objs.size f cdv))) :
  ∃ G,DSts (cxOf CX0 P w K mg base N_row_term "row_term" (defScope s_row_term) f cdv A outer s H E).nox (defBody s_row_term) G ∧ ∀ args S Kt,phRow C args S Kt → G (endsD Kt) ⟨startD N_row_term.length args,S⟩:=by
 refine ⟨_,(s_one (s_ret (d_makeN kT4 (fun _ _ => .cons (.bl false) .nil) hr (by one_item) (by rfl) (a_v d_str (a_v (d_v (pv 0)) (a_b (d_n (n_lst a_nil)) (a_v (d_v (pv 1)) a_nil)))) k_nil))),fun args S Kt h => ?_⟩
 obtain ⟨t,m,rfl,hl,k⟩:=h
 one_sign
 intro i hi
 refine ⟨i,"row",t,[],m,rfl,updS_same,⟨hl,by simp,by simp⟩,by decide,?_⟩
 one_sign
 rw [delS_none hi]
 rw [tmD_eq] at k
 simpa using k
abbrev RowK (P:Program) (w:World) (K:PySem.W.Frag) (mg:Str → Option Value) (base:Heap) (C:Addr) (n:Nat) (ks:List Str) (src:List Src):Prop:=CalN P w K mg base 4 "row_term" n ks (fun vs zs => arr src vs [.bl false] zs) (spD K (phRow C))
theorem rt2 (Df:DfnD K mg "row_term" s_row_term [.bl false]) (T:Txt K mg C aW) (kT4:TermK P w K mg base C 4 [] [.p 0,.p 1,.p 2,.p 3,.p 4]):RowK P w K mg base C 2 [] [.p 0,.p 1] :=
 dcalN Df sc_row_term (fun _ _ _ h => by obtain ⟨t,m,rfl,_⟩:=h; rfl) (bRow T kT4) 2 [] _ (by simp) (fun _ _ _ _ _ _ _ us its ws h1 h2 h3 => match us,h1,its,h2,ws,h3 with | [_,_],_,[_],_,[],_ => ⟨_,rfl,rfl⟩)
def phCol (C:Addr):Ph:=fun args S Kt => ∃ (t n:Str) (m:Bool),args = [.val (.str t),.val (.str n),.val (.bl m)] ∧ t.length ≤ 1000 ∧ n.length ≤ 1000 ∧ Kt (tmD C (.mk "column" n [.mk "row" t [] m] false)) S
def phPlace (C:Addr):Ph:=fun args S Kt => ∃ (t:Str) (m:Bool),args = [.val (.str t),.val (.bl m)] ∧ t.length ≤ 1000 ∧ Kt (tmD C (.mk "place" "" [.mk "row" t [] m] false)) S
def phZero (C:Addr):Ph:=fun args S Kt => args = [] ∧ Kt (tmD C (.mk "zero" "" [] false)) S
theorem row_len {t:Str} {m:Bool} (h:t.length ≤ 1000):(Tm.text (.mk "row" t [] m)).length ≤ 100000:=by
 have l1:Str.length "'" = 1:=by decide +kernel
 have la:(t ++ "'").length = t.length + 1:=by rw [TL.len_tl,TL.tl_append,List.length_append,← TL.len_tl,← TL.len_tl,l1]
 rw [Tm.text,wr,if_pos rfl]
 split
 ·rw [la]; omega
 ·omega
theorem bCol (T:Txt K mg C aW) (kT3:TermK P w K mg base C 3 [] [.p 0,.p 1,.p 2,.p 3,.d 0]) (rt2:RowK P w K mg base C 2 [] [.p 0,.p 1]) (f:Addr) (cdv:Value) (A:Around) (outer:List Env) (s:Shared) (H:Hp) (E:XK) (hr:Room 4 (A.deeper (PyProof.Rows.envOfC "column_term" (defScope s_column_term) s.heap.objs.size f cdv))) :
  ∃ G,DSts (cxOf CX0 P w K mg base N_column_term "column_term" (defScope s_column_term) f cdv A outer s H E).nox (defBody s_column_term) G ∧ ∀ args S Kt,phCol C args S Kt → G (endsD Kt) ⟨startD N_column_term.length args,S⟩:=by
 refine ⟨_,(s_one (s_ret (d_makeN kT3 (fun _ _ => .cons (.bl false) .nil) hr (by one_item) (by rfl) (a_v d_str (a_v (d_v (pv 1)) (a_b (d_n (n_lst (a_v (d_callN rt2 (fun _ _ => .cons (.bl false) .nil) hr (by one_item) (by rfl) (a_v (d_v (pv 0)) (a_v (d_v (pv 2)) a_nil)) k_nil) a_nil))) a_nil))) k_nil))),fun args S Kt h => ?_⟩
 obtain ⟨t,n,m,rfl,h1,h2,k⟩:=h
 one_sign
 refine ⟨t,m,rfl,h1,?_⟩
 one_sign
 intro i hi
 refine ⟨i,"column",n,[.mk "row" t [] m],false,rfl,updS_same,⟨h2,by simp,by simpa using row_len h1⟩,fun _ => by simp,?_⟩
 one_sign
 rw [delS_none hi]
 rw [tmD_eq] at k
 simpa using k
theorem ct3 (Df:DfnD K mg "column_term" s_column_term [.bl false]) (T:Txt K mg C aW) (kT3:TermK P w K mg base C 3 [] [.p 0,.p 1,.p 2,.p 3,.d 0]) (rt2:RowK P w K mg base C 2 [] [.p 0,.p 1]):CalN P w K mg base 5 "column_term" 3 [] (fun vs zs => arr [.p 0,.p 1,.p 2] vs [.bl false] zs) (spD K (phCol C)) :=
 dcalN Df sc_column_term (fun _ _ _ h => by obtain ⟨t,n,m,rfl,_⟩:=h; rfl) (bCol T kT3 rt2) 3 [] _ (by simp) (fun _ _ _ _ _ _ _ us its ws h1 h2 h3 => match us,h1,its,h2,ws,h3 with | [_,_,_],_,[_],_,[],_ => ⟨_,rfl,rfl⟩)
theorem bPlace (T:Txt K mg C aW) (kT3:TermK P w K mg base C 3 [] [.p 0,.p 1,.p 2,.p 3,.d 0]) (rt2:RowK P w K mg base C 2 [] [.p 0,.p 1]) (f:Addr) (cdv:Value) (A:Around) (outer:List Env) (s:Shared) (H:Hp) (E:XK) (hr:Room 4 (A.deeper (PyProof.Rows.envOfC "place_term" (defScope s_place_term) s.heap.objs.size f cdv))) :
  ∃ G,DSts (cxOf CX0 P w K mg base N_place_term "place_term" (defScope s_place_term) f cdv A outer s H E).nox (defBody s_place_term) G ∧ ∀ args S Kt,phPlace C args S Kt → G (endsD Kt) ⟨startD N_place_term.length args,S⟩:=by
 refine ⟨_,(s_one (s_ret (d_makeN kT3 (fun _ _ => .cons (.bl false) .nil) hr (by one_item) (by rfl) (a_v d_str (a_v d_str (a_b (d_n (n_lst (a_v (d_callN rt2 (fun _ _ => .cons (.bl false) .nil) hr (by one_item) (by rfl) (a_v (d_v (pv 0)) (a_v (d_v (pv 1)) a_nil)) k_nil) a_nil))) a_nil))) k_nil))),fun args S Kt h => ?_⟩
 obtain ⟨t,m,rfl,h1,k⟩:=h
 one_sign
 refine ⟨t,m,rfl,h1,?_⟩
 one_sign
 intro i hi
 refine ⟨i,"place","",[.mk "row" t [] m],false,rfl,updS_same,⟨by decide,by simp,by simpa using row_len h1⟩,fun _ => by simp,?_⟩
 one_sign
 rw [delS_none hi]
 rw [tmD_eq] at k
 simpa using k
theorem pt2 (Df:DfnD K mg "place_term" s_place_term [.bl false]) (T:Txt K mg C aW) (kT3:TermK P w K mg base C 3 [] [.p 0,.p 1,.p 2,.p 3,.d 0]) (rt2:RowK P w K mg base C 2 [] [.p 0,.p 1]):CalN P w K mg base 5 "place_term" 2 [] (fun vs zs => arr [.p 0,.p 1] vs [.bl false] zs) (spD K (phPlace C)) :=
 dcalN Df sc_place_term (fun _ _ _ h => by obtain ⟨t,m,rfl,_⟩:=h; rfl) (bPlace T kT3 rt2) 2 [] _ (by simp) (fun _ _ _ _ _ _ _ us its ws h1 h2 h3 => match us,h1,its,h2,ws,h3 with | [_,_],_,[_],_,[],_ => ⟨_,rfl,rfl⟩)
theorem cZero (Df:Dfn K mg "zero_term" s_zero_term) (T:Txt K mg C aW) (kT3:TermK P w K mg base C 3 [] [.p 0,.p 1,.p 2,.p 3,.d 0]):Cal P w K mg base 4 "zero_term" (spD K (phZero C)):=by
 refine dcal Df sc_zero_term (fun _ _ _ _ _ _ us hl => match us,hl with | [],_ => rfl) (fun args S Kt h => by obtain ⟨rfl,_⟩:=h; rfl) (fun f cdv A outer s H E hr => ⟨_,(s_one (s_ret (d_makeN kT3 (fun _ _ => .cons (.bl false) .nil) hr (by one_item) (by rfl) (a_v d_str (a_v d_str (a_b (d_n (n_lst a_nil)) a_nil))) k_nil))),fun args S Kt h => ?_⟩)
 obtain ⟨rfl,k⟩:=h
 one_sign
 intro i hi
 refine ⟨i,"zero","",[],false,rfl,updS_same,⟨by decide,by simp,by simp⟩,by decide,?_⟩
 one_sign
 rw [delS_none hi]
 rw [tmD_eq] at k
 simpa using k
def phApp (C:Addr) (kind:Str):Ph:=fun args S Kt => ∃ (n:Str) (ts:List Tm),args = [.val (.str n),.val (.tup (ts.map (tmD C)))] ∧ Short (ts.map Tm.text) n ∧ Kt (tmD C (.mk kind n ts false)) S
theorem cFun (Df:Dfn K mg "function_term" s_function_term) (T:Txt K mg C aW) (kT3:TermK P w K mg base C 3 [] [.p 0,.p 1,.p 2,.p 3,.d 0]):CalR P w K mg base 4 "function_term" (spStar 1 (spD K (phApp C "function"))):=by
 refine dcalR (ps:=["name"]) Df sc_function_term (fun kV doc pm an cdv ct us rest hl => match us,hl,rest with | [_],_,[] => rfl | [_],_,_ :: _ => rfl) (fun f cdv A outer s H E hr => ⟨_,(s_one (s_ret (d_makeN kT3 (fun _ _ => .cons (.bl false) .nil) hr (by one_item) (by rfl) (a_v d_str (a_v (d_v (pv 0)) (a_s (pv 1) a_nil))) k_nil))),fun args S Kt h => ?_⟩)
 obtain ⟨n,ts,rfl,sh,k⟩:=h
 one_sign
 intro i hi
 refine ⟨i,"function",n,ts,false,rfl,updS_same,sh,fun z => absurd z (by decide),?_⟩
 one_sign
 rw [delS_none hi]
 rw [tmD_eq] at k
 simpa using k
theorem cRule (Df:Dfn K mg "rule_term" s_rule_term) (T:Txt K mg C aW) (kT3:TermK P w K mg base C 3 [] [.p 0,.p 1,.p 2,.p 3,.d 0]):CalR P w K mg base 4 "rule_term" (spStar 1 (spD K (phApp C "rule"))):=by
 refine dcalR (ps:=["name"]) Df sc_rule_term (fun kV doc pm an cdv ct us rest hl => match us,hl,rest with | [_],_,[] => rfl | [_],_,_ :: _ => rfl) (fun f cdv A outer s H E hr => ⟨_,(s_one (s_ret (d_makeN kT3 (fun _ _ => .cons (.bl false) .nil) hr (by one_item) (by rfl) (a_v d_str (a_v (d_v (pv 0)) (a_s (pv 1) a_nil))) k_nil))),fun args S Kt h => ?_⟩)
 obtain ⟨n,ts,rfl,sh,k⟩:=h
 one_sign
 intro i hi
 refine ⟨i,"rule",n,ts,false,rfl,updS_same,sh,fun z => absurd z (by decide),?_⟩
 one_sign
 rw [delS_none hi]
 rw [tmD_eq] at k
 simpa using k
def phEq (C:Addr):Ph:=fun args S Kt => ∃ (t:Tm) (o:GD.D),args = [.val (tmD C t),.val o] ∧ ((∃ u,o = tmD C u ∧ Kt (.bl (decide (t.text = u.text))) S) ∨ (∃ s,tyD o = some s ∧ s ∈ ["str","NoneType","int","list","tuple","bool"] ∧ Kt (.bl false) S))
def phStr (C:Addr):Ph:=fun args S Kt => ∃ (t:Tm),args = [.val (tmD C t)] ∧ Kt (.str t.text) S
theorem mStr (Df:Mth K C "__str__" "Term.__str__" s_Term_str) (T:Txt K mg C aW) (F:TrmF K C):Met P w K mg base 1 C "__str__" (spD K (phStr C)):=by
 refine dmet Df sc_Term_str (fun _ _ _ _ _ _ us hl => match us,hl with | [_],_ => rfl) (fun args S Kt h => by obtain ⟨t,rfl,_⟩:=h; rfl) (fun f cdv A outer s H E hr => ⟨_,(s_one (s_ret (d_strS (by rfl) T.n_str (d_fld F.a_text (d_v (pv 0)))))),fun args S Kt h => ?_⟩)
 obtain ⟨t,rfl,k⟩:=h
 simp? only [tmD_text]
 exact k
theorem tmD_ty (t:Tm):tyD (tmD C t) = none:=by cases t; rw [tmD_eq]; rfl
theorem tmD_fs (S:Sto) (t:Tm):∃ fs,objFs S C (tmD C t) = some fs ∧ ∀ m ∈ (["__eq__","__str__"]:List Str),fs.lookup m = none:=by
 cases t with
 | mk k n ts m => rw [tmD_eq,objFs_obj]; exact ⟨_,rfl,fun x hx => by simp at hx; rcases hx with rfl | rfl <;> rfl⟩
theorem mEq (Df:Mth K C "__eq__" "Term.__eq__" s_Term_eq) (T:Txt K mg C aW) (F:TrmF K C):Met P w K mg base 1 C "__eq__" (spD K (phEq C)):=by
 refine dmet Df sc_Term_eq (fun _ _ _ _ _ _ us hl => match us,hl with | [_,_],_ => rfl) (fun args S Kt h => by obtain ⟨t,o,rfl,_⟩:=h; rfl) (fun f cdv A outer s H E hr => ⟨_,(s_one (s_ret (d_and (d_isO F.oc (by rfl) T.n_isinstance (d_v (pv 1)) (pe_glob (v := .ref _) rfl T.k_Term rfl)) (d_one (d_cmp op_eq l_eq (d_fld F.a_text (d_v (pv 0))) (d_fld F.a_text (d_v (pv 1))) (nomark _)))))),fun args S Kt h => ?_⟩)
 obtain ⟨t,o,rfl,h⟩:=h
 rcases h with ⟨u,rfl,k⟩ | ⟨s,hs,hm,k⟩
 ·obtain ⟨fs,e,_⟩:=tmD_fs (C:=C) S u
  simp? only [tmD_text,tyO_o (tmD_ty u) e]
  exact ⟨true,F.kSelf,by simpa using k⟩
 ·simp? only [tmD_text,tyO_b hs]
  exact ⟨false,F.kOther s hm,by simpa using k⟩
end
end
end K02
namespace K02
open PySem L2 GB G1 Tt GD TL
section
def penK (cs:List Int) (i r:Int):List (Key × GD.D):=[(.inr "script",.kls (cs.map GD.D.int)),(.inr "at",.int i),(.inr "left",.int r)]
theorem penK_s (cs:List Int) (i r:Int):valD (penK cs i r) (Sum.inr "script") = some (.kls (cs.map GD.D.int)):=rfl
theorem penK_a (cs:List Int) (i r:Int):valD (penK cs i r) (Sum.inr "at") = some (.int i):=rfl
theorem penK_l (cs:List Int) (i r:Int):valD (penK cs i r) (Sum.inr "left") = some (.int r):=rfl
theorem penK_pa (cs:List Int) (i r j:Int):putKD (penK cs i r) (Sum.inr "at") (.int j) = penK cs j r:=rfl
theorem penK_pl (cs:List Int) (i r j:Int):putKD (penK cs i r) (Sum.inr "left") (.int j) = penK cs i j:=rfl
theorem penK_len (cs:List Int) (i r:Int):(penK cs i r).length = 3:=rfl
def PenC (c:Cell) (n:Int):Prop:=∃ cs i r,c = .dct (penK cs i r) ∧ cs.length ≤ 63 ∧ 0 ≤ i ∧ i ≤ n ∧ 0 ≤ r
theorem PenC.le {c:Cell} {n m:Int} (h:PenC c n) (l:n ≤ m):PenC c m:=by
 obtain ⟨cs,i,r,h1,h2,h3,h4,h5⟩:=h
 exact ⟨cs,i,r,h1,h2,h3,by omega,h5⟩
def phPen:Ph:=fun args S Kt => ∃ ns:List Int,args = [.val (.kls (ns.map GD.D.int))] ∧ ns.length ≤ 63 ∧ ∀ p c,S p = none → PenC c 0 → Kt (.ref p) (updS S p c)
def phDraw:Ph:=fun args S Kt => ∃ p c0 m n,args = [.val (.ref p),.val (.int m)] ∧ S p = some c0 ∧ PenC c0 n ∧ 0 < m ∧ m < 536870912 ∧ n ≤ 100000 ∧ ∀ d c,0 ≤ d → d < m → PenC c (n + 1) → Kt (.int d) (updS S p c)
section
variable {P:Program} {w:World} {K:PySem.W.Frag} {mg:Str → Option Value} {base:Heap} {C aW:Addr}
theorem cPen (Df:Dfn K mg "_law_pen" s_law_pen) (T:Txt K mg C aW):Cal P w K mg base 1 "_law_pen" (spD K phPen):=by
 refine dcal Df sc_law_pen (fun _ _ _ _ _ _ us hl => match us,hl with | [_],_ => rfl) (fun args S Kt h => by obtain ⟨ns,rfl,_⟩:=h; rfl) (fun f cdv A outer s H E hr => ⟨_,(s_one (s_ret (d_dispC (pp_cons d_str (d_v (pv 0)) (pp_cons d_str d_int (pp_cons d_str d_int pp_nil))) rfl rfl (by simp) (by decide)))),fun args S Kt h => ?_⟩)
 obtain ⟨ns,rfl,hl,k⟩:=h
 one_sign
 intro p hp
 exact k p _ hp ⟨ns,0,0,rfl,hl,by decide,by decide,by decide⟩
theorem ints_at {cs:List Int} {z:Int} (h0:0 ≤ z) (h1:z < (cs.length:Int)):∃ v,atI cs z = some v:=by
 obtain ⟨j,rfl⟩:=Int.eq_ofNat_of_zero_le h0
 have hj:j < cs.length:=by omega
 exact ⟨cs[j],atI_nat (List.getElem?_eq_getElem hj)⟩
theorem cDraw (Df:Dfn K mg "_law_draw" s_law_draw) (T:Txt K mg C aW):Cal P w K mg base 1 "_law_draw" (spD K phDraw):=by
 refine dcal Df sc_law_draw (fun _ _ _ _ _ _ us hl => match us,hl with | [_,_],_ => rfl) (fun args S Kt h => by obtain ⟨p,c0,m,n,rfl,_⟩:=h; rfl) (fun f cdv A outer s H E hr => ⟨_,(s_cons (s_if (dt_cmp op_gt l_gt (d_get (hu_of hr) (d_v (pv 0)) d_str (fun _ _ => rfl)) d_int (nomark _)) (s_cons (s_set (i:=2) sc_law_draw.nd rfl (Or.inl rfl) (d_mod (d_toInt (by rfl) T.n_int (d_get (hu_of hr) (d_v (pv 0)) d_str (fun _ _ => rfl))) (d_v (pv 1))))
   (s_cons (s_dput (hu_of hr) (d_v (pv 0)) d_str (d_fdiv (d_get (hu_of hr) (d_v (pv 0)) d_str (fun _ _ => rfl)) (d_v (pv 1))))
   (s_one (s_ret (d_v (pv 2)))))) s_nil)
   (s_cons (s_set (i:=3) sc_law_draw.nd rfl (Or.inl rfl) (d_get (hu_of hr) (d_v (pv 0)) d_str (fun _ _ => rfl)))
   (s_cons (s_set (i:=4) sc_law_draw.nd rfl (Or.inl rfl) (d_get (hu_of hr) (d_v (pv 0)) d_str (fun _ _ => rfl)))
   (s_cons (s_dput (hu_of hr) (d_v (pv 0)) d_str (d_add (d_v (pv 4)) d_int))
   (s_cons (s_set (i:=5) sc_law_draw.nd rfl (Or.inl rfl) (d_int))
   (s_cut (s_if (dt_cmp op_gt l_gt (d_len (by rfl) T.n_len (s_s (pv 3))) d_int (nomark _)) (s_one (s_set (i:=5) sc_law_draw.nd rfl (Or.inl rfl) (d_ix (d_v (pv 3)) (d_mod (d_toInt (by rfl) T.n_int (d_v (pv 4))) (d_len (by rfl) T.n_len (s_s (pv 3)))) (fun _ _ => rfl)))) s_nil)
   (s_cons (s_if (dt_w (dw_and (dt_cmp op_lt l_lt (d_v (pv 4)) (d_len (by rfl) T.n_len (s_s (pv 3))) (nomark _)) (dw_and1 (dt_cmp op_ge l_ge (d_abs (by rfl) T.n_abs (d_v (pv 5))) (d_pow d_int d_int) (nomark _))))) (s_cons (s_dput (hu_of hr) (d_v (pv 0)) d_str (d_fdiv (d_abs (by rfl) T.n_abs (d_v (pv 5))) (d_v (pv 1))))
   (s_one (s_ret (d_mod (d_toInt (by rfl) T.n_int (d_abs (by rfl) T.n_abs (d_v (pv 5)))) (d_v (pv 1)))))) s_nil)
   (s_cons (s_set (i:=6) sc_law_draw.nd rfl (Or.inl rfl) (d_add (d_add (d_mod (d_toInt (by rfl) T.n_int (d_v (pv 5))) d_int) (d_mul d_int (d_v (pv 4)))) d_int))
   (s_cons (s_set (i:=6) sc_law_draw.nd rfl (Or.inl rfl) (d_mod (d_toInt (by rfl) T.n_int (d_add (d_add (d_mul (d_v (pv 6)) (d_v (pv 6))) (d_mul d_int (d_v (pv 6)))) (d_v (pv 4)))) d_int))
   (s_cons (s_set (i:=6) sc_law_draw.nd rfl (Or.inl rfl) (d_mod (d_toInt (by rfl) T.n_int (d_add (d_add (d_mul (d_v (pv 6)) (d_v (pv 6))) (d_mul d_int (d_v (pv 6)))) (d_mul d_int (d_v (pv 4))))) d_int))
   (s_one (s_ret (d_mod (d_toInt (by rfl) T.n_int (d_fdiv (d_v (pv 6)) d_int)) (d_v (pv 1))))))))))))))),fun args S Kt h => ?_⟩)
 obtain ⟨p,c0,m,n,rfl,hS,⟨cs,i,r,rfl,hc,i0,i1,r0⟩,m0,m1,hn,k⟩:=h
 simp? only [hS,penK_s,penK_a,penK_l,penK_pa,penK_pl,penK_len]
 split
 ·exact ⟨m0,⟨m0,by omega⟩,k _ _ (Int.emod_nonneg _ (by omega)) (Int.emod_lt_of_pos _ m0) ⟨cs,i,r / m,rfl,hc,i0,by omega,Int.ediv_nonneg r0 (by omega)⟩⟩
 ·refine cut_of (fun δ' => ∃ z:Int,δ' = ⟨[.val (.ref p),.val (.int m),.no,.val (.kls (cs.map GD.D.int)),.val (.int i),.val (.int z),.no],updS S p (.dct (penK cs (i + 1) r))⟩) ?_ ?_
  ·one_sign
   split
   ·rename_i h
    rw [List.length_map] at h ⊢
    obtain ⟨v,hv⟩:=ints_at (cs:=cs) (z:=i % (cs.length:Int)) (Int.emod_nonneg _ (by omega)) (Int.emod_lt_of_pos _ (by omega))
    exact ⟨by omega,v,hv,v,rfl⟩
   ·exact ⟨1009,rfl⟩
  ·rintro _ ⟨z,rfl⟩
   have b1:=mod_lt' (a:=z) (b:=2147483647) (by decide)
   have abs0:0 ≤ (if z < 0 then -z else z):=by split <;> omega
   have pn:∀ r',0 ≤ r' → PenC (.dct (penK cs (i + 1) r')) (n + 1):=fun r' h => ⟨cs,i + 1,r',rfl,hc,by omega,by omega,h⟩
   generalize hA:z % 2147483647 = a at *
   have main:∀ x:Int,0 ≤ x → Kt (.int (x % m)) (updS S p (.dct (penK cs (i + 1) r))):=fun x _ => k _ _ (Int.emod_nonneg _ (by omega)) (Int.emod_lt_of_pos _ m0) (pn r r0)
   have rest:CMul 40692 i ∧ CMul (a + 40692 * i + 17) (a + 40692 * i + 17) ∧ CMul 69621 (a + 40692 * i + 17):=⟨.inl ⟨by omega,by omega⟩,.inl ⟨by omega,by omega⟩,.inl ⟨by omega,by omega⟩⟩
   simp? only [penK_s,penK_a,penK_l,penK_pa,penK_pl,penK_len,hA]
   have fin:∀ N:Int,0 ≤ N → N < 2147483629 → CMul N N ∧ CMul 48271 N ∧ CMul 3 i ∧ CDiv ((N * N + 48271 * N + 3 * i) % 2147483587) 32:=fun N h1 h2 => ⟨.inl ⟨by omega,by omega⟩,.inl ⟨by omega,by omega⟩,.inl ⟨by omega,by omega⟩,⟨by omega,by omega⟩⟩
   have b2:=mod_lt' (a:=(a + 40692 * i + 17) * (a + 40692 * i + 17) + 69621 * (a + 40692 * i + 17) + i) (b:=2147483629) (by decide)
   generalize hN:((a + 40692 * i + 17) * (a + 40692 * i + 17) + 69621 * (a + 40692 * i + 17) + i) % 2147483629 = N at *
   obtain ⟨f1,f2,f3,f4⟩:=fin N b2.1 b2.2
   have go:CMul 40692 i ∧ CMul (a + 40692 * i + 17) (a + 40692 * i + 17) ∧ CMul 69621 (a + 40692 * i + 17) ∧ CMul N N ∧ CMul 48271 N ∧ CMul 3 i ∧ CDiv ((N * N + 48271 * N + 3 * i) % 2147483587) 32 ∧ 0 < m ∧ Kt (.int ((N * N + 48271 * N + 3 * i) % 2147483587 / 32 % m)) (updS S p (.dct (penK cs (i + 1) r))) :=
    ⟨rest.1,rest.2.1,rest.2.2,f1,f2,f3,f4,m0,main _ (Int.ediv_nonneg (mod_lt' (by decide)).1 (by decide))⟩
   clear hN hA fin
   generalize (if z < 0 then -z else z) = b at *
   split
   ·refine ⟨⟨by decide,by decide,by decide⟩,?_⟩
    split
    ·exact ⟨⟨m0,by omega⟩,m0,k _ _ (Int.emod_nonneg _ (by omega)) (Int.emod_lt_of_pos _ m0) (pn _ (Int.ediv_nonneg abs0 (by omega)))⟩
    ·exact go
   ·exact go
def phWords:Ph:=fun args S Kt => args = [] ∧ Kt (.lst (words.map GD.D.str)) S
theorem cWords (Df:Dfn K mg "_law_words" s_law_words) (T:Txt K mg C aW):Cal P w K mg base 1 "_law_words" (spD K phWords):=by
 refine dcal Df sc_law_words (fun _ _ _ _ _ _ us hl => match us,hl with | [],_ => rfl) (fun args S Kt h => by obtain ⟨rfl,_⟩:=h; rfl) (fun f cdv A outer s H E hr => ⟨_,(s_cons (s_set (i:=0) sc_law_words.nd rfl (Or.inl rfl) (d_n (n_lst (a_v d_str (a_v d_str (a_v d_str (a_v d_str (a_v d_str (a_v d_str (a_v d_str (a_v d_str (a_v d_str (a_v d_str (a_v d_str a_nil))))))))))))))
   (s_cons (s_set (i:=0) sc_law_words.nd rfl (Or.inl rfl) (d_n (n_cat (d_v (pv 0)) (d_n (n_lst (a_v d_str (a_v d_str (a_v d_str (a_v d_str (a_v d_str (a_v d_str (a_v d_str (a_v d_str (a_v d_str (a_v d_str a_nil)))))))))))))))
   (s_one (s_ret (d_n (n_cat (d_v (pv 0)) (d_n (n_lst (a_v d_str (a_v d_str (a_v d_str (a_v d_str (a_v d_str (a_v d_str (a_v d_str (a_v d_str a_nil)))))))))))))))),fun args S Kt h => ?_⟩)
 obtain ⟨rfl,k⟩:=h
 one_sign
 exact k
def wt (k t:Nat):Str:=("w" : Str) ++ (toString (0 + (k:Int)):Str) ++ "_" ++ (toString (t:Int):Str)
theorem lenA (x y:Str):(x ++ y).length = x.length + y.length:=by rw [len_tl,tl_append,List.length_append,← len_tl,← len_tl]
theorem wt_inj {k s t:Nat} (hs:s < 1000) (ht:t < 1000) (e:wt k s = wt k t):s = t:=by
 have e1:=congrArg tl e
 unfold wt at e1
 simp only [tl_append] at e1
 have e2:=List.append_cancel_left e1
 have e3:(toString (s:Int):Str) = (toString (t:Int):Str):=ext_tl e2
 have r1:=PySem.W.KIN.num_reads (n:=(s:Int)) (by omega) (by omega)
 have r2:=PySem.W.KIN.num_reads (n:=(t:Int)) (by omega) (by omega)
 have e4:=congrArg PySem.intText? e3
 rw [r1,r2] at e4
 have:=Option.some.inj e4
 omega
theorem num_len:∀ t:Fin 64,(Str.ofString (toString ((t.val:Nat):Int))).length ≤ 3:=by decide +kernel
theorem num_len' (t:Nat) (h:t < 64):(Str.ofString (toString (t:Int))).length ≤ 3:=num_len ⟨t,h⟩
theorem pigeon {k t:Nat} {F:List Str} (ht:t < 1000) (h:∀ s,s < t → wt k s ∈ F):t ≤ F.length:=by
 have nd:((List.range t).map (wt k)).Nodup:=by
  refine List.pairwise_map.mpr (List.Pairwise.imp_of_mem ?_ (List.pairwise_lt_range (n:=t)))
  intro a b ha hb hab e
  have:=wt_inj (by have:=List.mem_range.mp ha; omega) (by have:=List.mem_range.mp hb; omega) e
  omega
 have sub:(List.range t).map (wt k) ⊆ F:=fun x hx => by
  obtain ⟨s,hs,rfl⟩:=List.mem_map.mp hx
  exact h s (List.mem_range.mp hs)
 have:=List.Nodup.length_le_of_subset nd sub
 simpa using this
theorem lets_len:(tl letters).length = 26 ∧ letters.length = 26:=by decide +kernel
theorem signs_len:(tl signs).length = 37 ∧ signs.length = 37:=by decide +kernel
theorem atIn {l:List Nat} {d:Int} (h0:0 ≤ d) (h1:d < (l.length:Int)):∃ c,atI l d = some c ∧ c ∈ l:=by
 obtain ⟨j,rfl⟩:=Int.eq_ofNat_of_zero_le h0
 have hj:j < l.length:=by omega
 exact ⟨_,atI_nat (List.getElem?_eq_getElem hj),List.getElem_mem hj⟩
theorem tl_one (c:Nat):tl (⟨#[c]⟩:Str) = [c]:=rfl
theorem cut_hi (z:Str) (b:Nat):tl (cutS z none (some (b:Int))) = (tl z).take b:=by
 unfold cutS
 rw [HT.sIx_none,HT.sIx_nat,tl_mk,List.drop_zero,Nat.sub_zero,len_tl]
 show (tl z).take (min b (tl z).length) = _
 rw [List.take_eq_take_iff]; omega
theorem cut_lo (z:Str) (a:Nat):tl (cutS z (some (a:Int)) none) = (tl z).drop a:=by
 unfold cutS
 rw [HT.sIx_none,HT.sIx_nat,tl_mk,len_tl]
 show ((tl z).drop (min a (tl z).length)).take ((tl z).length - min a (tl z).length) = _
 rw [List.take_of_length_le (by rw [List.length_drop]; omega)]
 by_cases h:a ≤ (tl z).length
 ·rw [Nat.min_eq_left h]
 ·rw [Nat.min_eq_right (by omega),List.drop_of_length_le (by omega),List.drop_of_length_le (by omega)]
def Pr (y:Str):Prop:=1 ≤ y.length ∧ y.length ≤ 8 ∧ (∃ c r,tl y = c :: r ∧ c ∈ tl letters) ∧ ∀ x ∈ tl y,x ∈ tl signs
def Nm (y:Str):Prop:=Pr y ∧ y ∉ words
theorem Nm.len {y:Str} (h:Nm y):y.length ≤ 30:=Nat.le_trans h.1.2.1 (by decide)
theorem let_sign:∀ x ∈ tl letters,x ∈ tl signs:=by decide +kernel
theorem mem_joinL {S:List Nat} {x:Nat}:∀ {l:List (List Nat)},x ∈ joinL S l → x ∈ S ∨ ∃ p ∈ l,x ∈ p
 | [],h => by simp [joinL] at h
 | [p],h => .inr ⟨p,by simp,by simpa [joinL] using h⟩
 | p :: q :: r,h => by
  simp only [joinL,List.mem_append] at h
  rcases h with h | h | h
  ·exact .inr ⟨p,by simp,h⟩
  ·exact .inl h
  ·rcases mem_joinL h with h | ⟨z,h1,h2⟩
   ·exact .inl h
   ·exact .inr ⟨z,List.mem_cons_of_mem _ h1,h2⟩
def prB (y:Str):Bool:=decide (1 ≤ y.length) && decide (y.length ≤ 8) && (match tl y with | [] => false | c :: _ => (tl letters).contains c) && (tl y).all fun x => (tl signs).contains x
theorem pr_of {y:Str} (h:prB y = true):Pr y:=by
 unfold prB at h
 simp only [Bool.and_eq_true,decide_eq_true_eq,List.all_eq_true] at h
 obtain ⟨⟨⟨h1,h2⟩,h3⟩,h4⟩:=h
 refine ⟨h1,h2,?_,fun x hx => by simpa using h4 x hx⟩
 cases e:tl y with
 | nil => rw [e] at h3; simp at h3
 | cons c r => rw [e] at h3; exact ⟨c,r,rfl,by simpa using h3⟩
theorem wt_pr0:∀ (k:Fin 12) (t:Fin 64),prB (wt k.val t.val) = true:=by decide +kernel
theorem wt_pr {k t:Nat} (hk:k < 12) (ht:t < 64):Pr (wt k t):=pr_of (wt_pr0 ⟨k,hk⟩ ⟨t,ht⟩)
theorem Pr.head {y:Str} (h:Pr y):∃ c r,tl y = c :: r ∧ c ∈ tl letters:=h.2.2.1
theorem pr_base {x:Nat} {zs:List Str} (hx:x ∈ tl letters) (hz:∀ z ∈ zs,∃ c,c ∈ tl signs ∧ z = ⟨#[c]⟩) (l:(⟨#[x]⟩ ++ Txt.join "" zs:Str).length ≤ 8):Pr (⟨#[x]⟩ ++ Txt.join "" zs):=by
 have e:tl (⟨#[x]⟩ ++ Txt.join "" zs:Str) = x :: tl (Txt.join "" zs):=by rw [tl_append]; rfl
 refine ⟨by rw [len_tl,e]; simp,l,⟨x,_,e,hx⟩,fun y hy => ?_⟩
 rw [e] at hy
 rcases List.mem_cons.mp hy with rfl | hy
 ·exact let_sign _ hx
 ·rw [join_eq,tl_join] at hy
  rcases mem_joinL hy with h | ⟨p,h1,h2⟩
  ·have e2:tl (Str.ofString "") = []:=by decide +kernel
   rw [e2] at h; cases h
  ·obtain ⟨z,hz1,rfl⟩:=List.mem_map.mp h1
   obtain ⟨c,hc,rfl⟩:=hz z hz1
   rw [tl_one,List.mem_singleton] at h2
   rw [h2]; exact hc
theorem pr_way0 {b:Str} {x d:Nat} (hb:Pr b) (hx:x ∈ tl letters) (hd:d < b.length):Pr (cutS b none (some (d:Int)) ++ ⟨#[x]⟩ ++ cutS b (some ((d:Int) + 1)) none):=by
 have e:tl (cutS b none (some (d:Int)) ++ ⟨#[x]⟩ ++ cutS b (some ((d:Int) + 1)) none) = (tl b).take d ++ [x] ++ (tl b).drop (d + 1):=by
  rw [tl_append,tl_append,cut_hi,show ((d:Int) + 1) = ((d + 1:Nat):Int) by omega,cut_lo,tl_one]
 obtain ⟨h1,h2,⟨c,r,h3,h4⟩,h5⟩:=hb
 rw [len_tl] at hd h2
 have le:((tl b).take d ++ [x] ++ (tl b).drop (d + 1)).length = (tl b).length:=by rw [List.length_append,List.length_append,List.length_take,List.length_drop,List.length_singleton]; omega
 refine ⟨by rw [len_tl,e,le]; omega,by rw [len_tl,e,le]; omega,?_,fun y hy => ?_⟩
 ·rw [e,h3]
  cases d with
  | zero => exact ⟨x,_,rfl,hx⟩
  | succ d => exact ⟨c,_,rfl,h4⟩
 ·rw [e] at hy
  simp only [List.mem_append,List.mem_singleton] at hy
  rcases hy with (hy | hy) | hy
  ·exact h5 y (List.mem_of_mem_take hy)
  ·rw [hy]; exact let_sign x hx
  ·exact h5 y (List.mem_of_mem_drop hy)
theorem pr_way1 {b:Str} {i:Nat} (hb:Pr b):Pr (cutS (b ++ Txt.mul "q1_x" 2) none (some ((0 + (i:Int)) % 8 + 1))):=by
 have e0:(0 + (i:Int)) % 8 + 1 = ((i % 8 + 1:Nat):Int):=by omega
 have e:tl (cutS (b ++ Txt.mul "q1_x" 2) none (some ((0 + (i:Int)) % 8 + 1))) = (tl b ++ tl (Txt.mul "q1_x" 2)).take (i % 8 + 1):=by rw [e0,cut_hi,tl_append]
 have hq:∀ y ∈ tl (Txt.mul "q1_x" 2),y ∈ tl signs:=by decide +kernel
 obtain ⟨h1,h2,⟨c,r,h3,h4⟩,h5⟩:=hb
 refine ⟨by rw [len_tl,e,h3]; simp,by rw [len_tl,e,List.length_take]; omega,⟨c,_,by rw [e,h3]; rfl,h4⟩,fun y hy => ?_⟩
 rw [e] at hy
 rcases List.mem_append.mp (List.mem_of_mem_take hy) with hy | hy
 ·exact h5 y hy
 ·exact hq y hy
theorem pr_way2 {b:Str} {x:Nat} {j:Int} (hb:Pr b) (hx:x ∈ tl letters) (h0:0 ≤ j) (hj:j < (b.length:Int)):Pr (⟨#[x]⟩ ++ cutS b none (some j)):=by
 obtain ⟨d,rfl⟩:=Int.eq_ofNat_of_zero_le h0
 have e:tl (⟨#[x]⟩ ++ cutS b none (some (d:Int))) = x :: (tl b).take d:=by rw [tl_append,cut_hi]; rfl
 obtain ⟨h1,h2,h3,h5⟩:=hb
 rw [len_tl] at h2 hj
 refine ⟨by rw [len_tl,e]; simp,by rw [len_tl,e,List.length_cons,List.length_take]; omega,⟨x,_,e,hx⟩,fun y hy => ?_⟩
 rw [e] at hy
 rcases List.mem_cons.mp hy with rfl | hy
 ·exact let_sign _ hx
 ·exact h5 y (List.mem_of_mem_take hy)
theorem one_len (c:Nat):(⟨#[c]⟩:Str).length = 1:=rfl
theorem rng_at {lo:Int} {n i:Nat} {d:GD.D} (h:(rngD lo n)[i]? = some d):i < n ∧ d = .int (lo + (i:Int)):=by
 simp only [rngD,List.getElem?_map,Option.map_eq_some_iff] at h
 obtain ⟨j,hj,rfl⟩:=h
 rw [List.getElem?_eq_some_iff] at hj
 obtain ⟨h1,h2⟩:=hj
 simp at h1 h2
 subst h2
 exact ⟨h1,rfl⟩
def phNames:Ph:=fun args S Kt => ∃ (p:Nat) (c0:Cell) (n:Int) (many:Nat),args = [.val (.ref p),.val (.int many)] ∧ S p = some c0 ∧ PenC c0 n ∧ n ≤ 90000 ∧ many ≤ 12 ∧ ∀ (ys:List Str) (c:Cell),ys.length = many → (∀ y ∈ ys,Nm y) → PenC c (n + 30) → Kt (.lst (ys.map GD.D.str)) (updS S p c)
theorem cNames (Df:Dfn K mg "_law_names" s_law_names) (T:Txt K mg C aW) (cDraw:Cal P w K mg base 1 "_law_draw" (spD K phDraw)) (cWords:Cal P w K mg base 1 "_law_words" (spD K phWords)):Cal P w K mg base 2 "_law_names" (spD K phNames):=by
 refine dcal Df sc_law_names (fun _ _ _ _ _ _ us hl => match us,hl with | [_,_],_ => rfl) (fun args S Kt h => by obtain ⟨p,c0,n,many,rfl,_⟩:=h; rfl) (fun f cdv A outer s H E hr => ⟨_,(s_cons (s_set (i:=2) sc_law_names.nd rfl (Or.inl rfl) (d_str))
   (s_cons (s_set (i:=3) sc_law_names.nd rfl (Or.inr rfl) (d_cat (d_v (pv 2)) d_str))
   (s_cons (s_set (i:=4) sc_law_names.nd rfl (Or.inl rfl) (d_cat (d_ixS (d_v (pv 2)) (d_call cDraw hr (by one_item) (by rfl) (a_v (d_v (pv 0)) (a_v d_int a_nil))) (fun _ _ => rfl)) (d_join d_str (s_n (n_lc (own:=[("_law_k",10)]) (by rfl) sc_law_names.nd (i_rng (by rfl) T.n_range (a_v (d_call cDraw hr (by one_item) (by rfl) (a_v (d_v (pv 0)) (a_v d_int a_nil))) a_nil)) (blkOk_by (own:=[("_law_k",10)]) (N:=N_law_names) (sc:=defScope s_law_names) (by decide +kernel)) (fun _ _ _ _ _ => g_name (pg_name (i:=10) sc_law_names.nd rfl (Or.inl rfl))) (fun _ _ _ _ _ => ts_nil) (fun _ _ _ _ _ => d_ixS (d_v (pv 3)) (d_call cDraw hr (by one_item) (by rfl) (a_v (d_v (pv 0)) (a_v d_int a_nil))) (fun _ _ => rfl)) (by simp))))))
   (s_cons (s_set (i:=5) sc_law_names.nd rfl (Or.inl rfl) (d_call cDraw hr (by one_item) (by rfl) (a_v (d_v (pv 0)) (a_v (d_lenS (by rfl) T.n_len (d_v (pv 4))) a_nil))))
   (s_cons (s_set (i:=6) sc_law_names.nd rfl (Or.inl rfl) (d_call cDraw hr (by one_item) (by rfl) (a_v (d_v (pv 0)) (a_v d_int a_nil))))
   (s_cons (s_set (i:=7) sc_law_names.nd rfl (Or.inl rfl) (d_ix (d_n (n_lst (a_v d_int (a_v d_int (a_v d_int (a_v d_int (a_v d_int (a_v d_int (a_v d_int (a_v d_int a_nil)))))))))) (d_call cDraw hr (by one_item) (by rfl) (a_v (d_v (pv 0)) (a_v d_int a_nil))) (fun _ _ => rfl)))
   (s_cons (s_set (i:=8) sc_law_names.nd rfl (Or.inl rfl) (d_call cDraw hr (by one_item) (by rfl) (a_v (d_v (pv 0)) (a_v d_int a_nil))))
   (s_cons (s_own (i:=9) sc_law_names.nd rfl (Or.inl rfl) (n_lst a_nil))
   (s_cons (s_for PassesOwn.never rfl (i_rng (by rfl) T.n_range (a_v (d_v (pv 1)) a_nil)) (g_name (pg_name (i:=10) sc_law_names.nd rfl (Or.inl rfl)))
   (s_cons (s_set (i:=11) sc_law_names.nd rfl (Or.inl rfl) (d_ixS (d_v (pv 2)) (d_mod (d_toInt (by rfl) T.n_int (d_add (d_v (pv 6)) (d_mul (d_v (pv 7)) (d_v (pv 10))))) d_int) (fun _ _ => rfl)))
   (s_cons (s_set (i:=12) sc_law_names.nd rfl (Or.inl rfl) (d_cat (d_cat (d_slS (d_v (pv 4)) o_no (o_sm (d_v (pv 5)))) (d_v (pv 11))) (d_slS (d_v (pv 4)) (o_sm (d_add (d_v (pv 5)) d_int)) o_no)))
   (s_cut (s_if (dt_cmp op_eq l_eq (d_v (pv 8)) d_int (nomark _)) (s_one (s_set (i:=12) sc_law_names.nd rfl (Or.inl rfl) (d_slS (d_cat (d_v (pv 4)) (d_mulS d_str d_int)) o_no (o_sm (d_add (d_mod (d_toInt (by rfl) T.n_int (d_v (pv 10))) d_int) d_int))))) s_nil)
   (s_cut (s_if (dt_cmp op_eq l_eq (d_v (pv 8)) d_int (nomark _)) (s_one (s_set (i:=12) sc_law_names.nd rfl (Or.inl rfl) (d_cat (d_v (pv 11)) (d_slS (d_v (pv 4)) o_no (o_sm (d_mod (d_toInt (by rfl) T.n_int (d_v (pv 10))) (d_lenS (by rfl) T.n_len (d_v (pv 4))))))))) s_nil)
   (s_cons (s_set (i:=13) sc_law_names.nd rfl (Or.inl rfl) (d_int))
   (s_cons (s_while PassesOwn.never (dt_w (dw_or (dt_in (d_v (pv 12)) (s_s (pv 9))) (dw_or1 (dt_in (d_v (pv 12)) (s_d (d_call0 cWords hr (by one_item) (by rfl))))))) (s_cons (s_set (i:=12) sc_law_names.nd rfl (Or.inl rfl) (d_cat (d_cat (d_cat d_str (d_strI (by rfl) T.n_str (d_v (pv 10)))) d_str) (d_strI (by rfl) T.n_str (d_v (pv 13)))))
   (s_one (s_set (i:=13) sc_law_names.nd rfl (Or.inl rfl) (d_add (d_v (pv 13)) d_int)))))
   (s_one (s_expr (d_app (pv 9) (d_v (pv 12))))))))))))
   (s_one (s_ret (d_frz (pv 9))))))))))))),fun args S Kt h => ?_⟩)
 obtain ⟨p,c0,n,many,rfl,hS,pc,hn,hm,k⟩:=h
 have e0:(Str.ofString "").length = 0:=by decide +kernel
 have big:∀ {n:Nat},n ≤ 2000000 → n ≤ 16777216:=fun h => by omega
 one_sign
 refine ⟨by decide +kernel,p,c0,_,n,rfl,hS,pc,by decide,by decide,by omega,fun d1 c1 h1 h2 pc1 => ?_⟩
 show gIxS (.str letters) _ _
 one_sign
 obtain ⟨x1,hx1,mx1⟩:=atIn (l:=tl letters) h1 (by rw [lets_len.1]; exact h2)
 refine ⟨by decide +kernel,x1,hx1,p,c1,_,n + 1,rfl,updS_same,pc1,by decide,by decide,by omega,fun d2 c2 h3 h4 pc2 => ?_⟩
 one_sign
 refine ⟨by omega,by omega,?_⟩
 obtain ⟨w0,rfl⟩:=Int.eq_ofNat_of_zero_le h3
 have en:(w0:Int).toNat = w0:=rfl
 rw [en]
 let I1:Nat → List GD.D → DS → Prop:=fun i acc δ => ∃ (zs:List Str) (c:Cell),acc = zs.map GD.D.str ∧ (∀ z ∈ zs,∃ c,c ∈ tl signs ∧ z = ⟨#[c]⟩) ∧ wipeD δ.vs [10] = [.val (.ref p),.val (.int many),.val (.str letters),.val (.str signs),.no,.no,.no,.no,.no,.no,.no,.no,.no,.no] ∧ δ.S = updS S p c ∧ PenC c (n + 2 + i)
 refine lc_inv I1 rfl ⟨[],c2,rfl,by simp,rfl,rfl,pc2.le (by omega)⟩ ?_ ?_
 ·rintro i d acc δ hi la ⟨zs,c,rfl,hz,e1,e2,pci⟩
  obtain ⟨hi',rfl⟩:=rng_at hi
  rw [e1,e2]
  one_sign
  refine ⟨p,c,_,_,rfl,updS_same,pci,by decide,by decide,by omega,fun d3 c3 h5 h6 pc3 => ?_⟩
  one_sign
  obtain ⟨x3,hx3,mx3⟩:=atIn (l:=tl signs) h5 (by rw [signs_len.1]; exact h6)
  refine ⟨by decide +kernel,x3,hx3,by simp at la ⊢; omega,by simp at la ⊢; omega,zs ++ [⟨#[x3]⟩],c3,by simp,?_,rfl,rfl,pc3.le (by omega)⟩
  intro z hz'
  rcases List.mem_append.mp hz' with q | q
  ·exact hz z q
  ·exact ⟨x3,mx3,List.mem_singleton.mp q⟩
 ·rintro acc δ la ⟨zs,c3,rfl,hz,e1,e2,pc3⟩
  rw [e1,e2]
  have lz:zs.length = w0:=by simpa [rngD] using la
  have s8:=sum_leN 1 zs fun x hx => by obtain ⟨c,_,rfl⟩:=hz x hx; exact Nat.le_of_eq (one_len c)
  have jb:=join_len "" zs
  rw [e0] at jb
  have pb0:=fun l => pr_base mx1 hz l
  simp? only [e0]
  generalize hB:Txt.join (Str.ofString "") zs = bs at *
  have lb:(⟨#[x1]⟩ ++ bs:Str).length ≤ 8 ∧ 1 ≤ (⟨#[x1]⟩ ++ bs:Str).length:=by rw [lenA,one_len]; omega
  refine ⟨by omega,by rw [one_len]; omega,?_⟩
  have pb:=pb0 lb.1
  generalize (⟨#[x1]⟩ ++ bs:Str) = bb at lb pb
  replace pc3:=pc3.le (m:=n + 10) (by simp [rngD]; omega)
  refine ⟨by omega,p,c3,_,n + 10,rfl,updS_same,pc3,by omega,by omega,by omega,fun d4 c4 g1 g2 pc4 => ?_⟩
  one_sign
  refine ⟨p,c4,_,n + 10 + 1,rfl,updS_same,pc4,by decide,by decide,by omega,fun d5 c5 g3 g4 pc5 => ?_⟩
  one_sign
  refine ⟨p,c5,_,n + 10 + 1 + 1,rfl,updS_same,pc5,by decide,by decide,by omega,fun d6 c6 g5 g6 pc6 => ?_⟩
  one_sign
  have step:∃ st:Int,atI ([.int 1,.int 3,.int 5,.int 7,.int 9,.int 11,.int 15,.int 17]:List GD.D) d6 = some (.int st) ∧ 0 ≤ st ∧ st ≤ 100:=by
   obtain ⟨j,rfl⟩:=Int.eq_ofNat_of_zero_le g5
   have:j < 8:=by omega
   match j,this with
   | 0,_ => exact ⟨1,rfl,by decide,by decide⟩
   | 1,_ => exact ⟨3,rfl,by decide,by decide⟩
   | 2,_ => exact ⟨5,rfl,by decide,by decide⟩
   | 3,_ => exact ⟨7,rfl,by decide,by decide⟩
   | 4,_ => exact ⟨9,rfl,by decide,by decide⟩
   | 5,_ => exact ⟨11,rfl,by decide,by decide⟩
   | 6,_ => exact ⟨15,rfl,by decide,by decide⟩
   | 7,_ => exact ⟨17,rfl,by decide,by decide⟩
  obtain ⟨st,hst,st0,st1⟩:=step
  refine ⟨_,hst,p,c6,_,n + 10 + 1 + 1 + 1,rfl,updS_same,pc6,by decide,by decide,by omega,fun d7 c7 g7 g8 pc7 => ?_⟩
  one_sign
  replace pc7:=pc7.le (m:=n + 30) (by omega)
  have en2:(many:Int).toNat = many:=rfl
  refine ⟨by omega,by omega,?_⟩
  rw [en2]
  let vs (a b c d:Sl) (found:List Str):List Sl:=[.val (.ref p),.val (.int many),.val (.str letters),.val (.str signs),.val (.str bb),.val (.int d4),.val (.int d5),.val (.int st),.val (.int d7),.own (found.map GD.D.str),a,b,c,d]
  let I2:Nat → DS → Prop:=fun i δ => ∃ (found:List Str) (a b c d:Sl),δ = ⟨vs a b c d found,updS S p c7⟩ ∧ found.length = i ∧ ∀ y ∈ found,Nm y
  refine for_inv I2 ⟨[],.no,.no,.no,.no,rfl,rfl,by simp⟩ ?_ ?_
  ·rintro i _ _ hi ⟨found,ua,ub,uc,ud,rfl,lf,sf⟩
   obtain ⟨hi',rfl⟩:=rng_at hi
   have hm26:=mod_lt' (a:=d5 + st * (0 + (i:Int))) (b:=26) (by decide)
   obtain ⟨x4,hx4,mx4⟩:=atIn (l:=tl letters) hm26.1 (by rw [lets_len.1]; exact hm26.2)
   simp only [vs]
   one_sign
   have cm:CMul st (0 + (i:Int)) := .inl ⟨by omega,by omega⟩
   have q1:=cutS_length bb none (some d4)
   have q2:=cutS_length bb (some (d4 + 1)) none
   refine ⟨cm,by decide +kernel,x4,hx4,?_⟩
   have lw0:Pr (cutS bb none (some d4) ++ ⟨#[x4]⟩ ++ cutS bb (some (d4 + 1)) none):=by
    obtain ⟨dn,rfl⟩:=Int.eq_ofNat_of_zero_le g1
    exact pr_way0 pb mx4 (by omega)
   refine ⟨by omega,by rw [one_len]; omega,by omega,by rw [lenA,one_len]; omega,?_⟩
   generalize (cutS bb none (some d4) ++ ⟨#[x4]⟩ ++ cutS bb (some (d4 + 1)) none) = w0 at lw0
   let st3 (wd:Str):DS → Prop:=fun δ => δ = ⟨vs (.val (.int (0 + (i:Int)))) (.val (.str ⟨#[x4]⟩)) (.val (.str wd)) ud found,updS S p c7⟩
   refine cut_of (fun δ => ∃ wd:Str,st3 wd δ ∧ Pr wd) ?_ ?_
   ·one_sign
    split
    ·have l4:Str.length "q1_x" = 4:=by decide +kernel
     have l8:(Txt.mul "q1_x" 2).length = 8:=by decide +kernel
     have q3:=cutS_length (bb ++ Txt.mul "q1_x" 2) none (some ((0 + (i:Int)) % 8 + 1))
     rw [lenA,l8] at q3
     exact ⟨PyProof.Rows.mulOk_of 4 2 (by rw [l4]; omega) (by omega) (by omega) (by decide) (by decide),by rw [l8]; omega,by rw [lenA,l8]; omega,_,rfl,pr_way1 pb⟩
    ·exact ⟨_,rfl,lw0⟩
   ·rintro _ ⟨wd1,rfl,lw1⟩
    refine cut_of (fun δ => ∃ wd:Str,st3 wd δ ∧ Pr wd) ?_ ?_
    ·simp only [vs]
     one_sign
     split
     ·have q3:=cutS_length bb none (some ((0 + (i:Int)) % (bb.length:Int)))
      exact ⟨by omega,by omega,by omega,by rw [one_len]; omega,_,rfl,pr_way2 pb mx4 (Int.emod_nonneg _ (by omega)) (Int.emod_lt_of_pos _ (by omega))⟩
     ·exact ⟨_,rfl,lw1⟩
    ·rintro _ ⟨wd2,rfl,lw2⟩
     have lF:(found ++ words).length = i + 29:=by rw [List.length_append,lf]; rfl
     simp only [vs]
     one_sign
     let J:Nat → DS → Prop:=fun mm δ => ∃ (wd:Str) (t:Nat),δ = ⟨vs (.val (.int (0 + (i:Int)))) (.val (.str ⟨#[x4]⟩)) (.val (.str wd)) (.val (.int t)) found,updS S p c7⟩ ∧ Pr wd ∧ (∀ s,s + 1 < t → wt i s ∈ found ++ words) ∧ (0 < t → wd = wt i (t - 1)) ∧ t ≤ i + 30 ∧ mm = i + 31 - t
     refine while_of J (i + 31) ⟨wd2,0,rfl,lw2,fun s h => absurd h (by omega),fun h => absurd h (by omega),by omega,rfl⟩ ?_
     rintro mm _ ⟨wd,t,rfl,lw,hin,hwd,ht,rfl⟩
     have more:wd ∈ found ++ words → t ≤ i + 29:=fun hm => by
      have:t ≤ (found ++ words).length:=pigeon (k:=i) (by omega) fun s hs => by
       by_cases h:s + 1 < t
       ·exact hin s h
       ·have:s = t - 1:=by omega
        rw [this,← hwd (by omega)]; exact hm
      omega
     have lgt:∀ j:Nat,j < 64 → (j:Int).natAbs.log2 < 1920:=fun j hj => by
      have h1:(j:Int).natAbs = j:=rfl
      rw [h1]
      by_cases h0:j = 0
      ·subst h0; decide
      ·exact (Nat.log2_lt h0).mpr (Nat.lt_of_lt_of_le hj (by decide))
     have lg0:(0 + (i:Int)).natAbs.log2 < 1920:=by rw [Int.zero_add]; exact lgt i (by omega)
     have w1:Str.length "w" = 1 ∧ Str.length "_" = 1:=by decide +kernel
     have w2:(Str.ofString (toString (0 + (i:Int)))).length ≤ 3:=by rw [Int.zero_add]; exact num_len' i (by omega)
     have step:wd ∈ found ++ words → ∃ N:DS → Prop,(∀ δ',N δ' → ∃ m',m' < i + 31 - t ∧ J m' δ') ∧ N ⟨vs (.val (.int (0 + (i:Int)))) (.val (.str ⟨#[x4]⟩)) (.val (.str (wt i t))) (.val (.int (t + 1:Nat))) found,updS S p c7⟩:=by
      intro hm
      have:=more hm
      refine ⟨fun δ' => J (i + 31 - (t + 1)) δ',fun δ' h => ⟨_,by omega,h⟩,wt i t,t + 1,rfl,wt_pr (by omega) (by omega),fun s hs => ?_,fun _ => rfl,by omega,rfl⟩
      by_cases h:s + 1 < t
      ·exact hin s h
      ·have e:s = t - 1:=by omega
       rw [e,← hwd (by omega)]; exact hm
     have body:wd ∈ found ++ words → (0 + (i:Int)).natAbs.log2 < 1920 ∧ Str.length "w" + (Str.ofString (toString (0 + (i:Int)))).length ≤ 16777216 ∧ (("w" : Str) ++ Str.ofString (toString (0 + (i:Int)))).length + Str.length "_" ≤ 16777216 ∧ (t:Int).natAbs.log2 < 1920 ∧ (("w" : Str) ++ Str.ofString (toString (0 + (i:Int))) ++ "_").length + (Str.ofString (toString (t:Int))).length ≤ 16777216:=fun hm => by
      have:=more hm
      have:=num_len' t (by omega)
      exact ⟨lg0,by omega,by rw [lenA]; omega,lgt t (by omega),by rw [lenA,lenA]; omega⟩
     simp only [vs]
     one_sign
     split
     ·rename_i hf
      have hm:wd ∈ found ++ words:=List.mem_append_left _ hf
      obtain ⟨N,n1,n2⟩:=step hm
      obtain ⟨b1,b2,b3,b4,b5⟩:=body hm
      exact ⟨N,n1,b1,b2,b3,b4,b5,n2⟩
     ·rename_i hf
      refine ⟨rfl,?_⟩
      one_sign
      split
      ·rename_i hf2
       have hm:wd ∈ found ++ words:=List.mem_append_right _ hf2
       obtain ⟨N,n1,n2⟩:=step hm
       obtain ⟨b1,b2,b3,b4,b5⟩:=body hm
       exact ⟨N,n1,b1,b2,b3,b4,b5,n2⟩
      ·rename_i hf2
       refine ⟨by simp; omega,found ++ [wd],.val (.int (0 + (i:Int))),.val (.str ⟨#[x4]⟩),.val (.str wd),.val (.int t),?_,by simp [lf],fun y hy => ?_⟩
       ·simp only [vs,List.map_append,List.map_cons,List.map_nil]
       ·rcases List.mem_append.mp hy with hy | hy
        ·exact sf y hy
        ·rw [List.mem_singleton.mp hy]; exact ⟨lw,hf2⟩
  ·rintro _ ⟨found,ua,ub,uc,ud,rfl,lf,sf⟩
   simp only [vs]
   one_sign
   exact k found c7 (by simpa [rngD] using lf) sf pc7
end
end
section
mutual
def mdD:Tm → GD.D
 | .mk kind name parts m => .tup [.str kind,.str name,.tup (mdDs parts),.bl m]
def mdDs:List Tm → List GD.D
 | [] => []
 | t :: ts => mdD t :: mdDs ts
end
theorem mdDs_map:∀ ts:List Tm,mdDs ts = ts.map mdD
 | [] => rfl
 | t :: ts => by rw [mdDs,mdDs_map ts]; rfl
theorem mdD_eq (k n:Str) (ts:List Tm) (m:Bool):mdD (.mk k n ts m) = .tup [.str k,.str n,.tup (ts.map mdD),.bl m]:=by rw [mdD,mdDs_map]
def nms (l:List Str):GD.D := .lst (l.map GD.D.str)
structure Lot (l:GD.D) (a b c d:List Str):Prop where
 e:l = .lst [nms a,nms b,nms c,nms d]
 la:a.length = 3
 lb:b.length = 4
 lc:c.length = 3
 ld:d.length = 2
 ha:∀ x ∈ a,Nm x
 hb:∀ x ∈ b,Nm x
 hc:∀ x ∈ c,Nm x
 hd:∀ x ∈ d,Nm x
theorem cut12 {ys:List Str} (h:ys.length = 12) (lo hi:Option Int):∃ zs:List Str,cutD (ys.map GD.D.str) lo hi = zs.map GD.D.str ∧ zs.length = min (HT.sIx 12 12 hi - HT.sIx 12 0 lo) (12 - HT.sIx 12 0 lo) ∧ ∀ z ∈ zs,z ∈ ys:=by
 refine ⟨_,cutD_map GD.D.str ys lo hi,?_,fun z hz => List.mem_of_mem_drop (List.mem_of_mem_take hz)⟩
 rw [List.length_take,List.length_drop,h]
theorem str_at {l:List Str} {d:Int} (h0:0 ≤ d) (h1:d < (l.length:Int)):∃ x,atI l d = some x ∧ x ∈ l:=by
 obtain ⟨j,rfl⟩:=Int.eq_ofNat_of_zero_le h0
 have hj:j < l.length:=by omega
 exact ⟨_,atI_nat (List.getElem?_eq_getElem hj),List.getElem_mem hj⟩
def phLot:Ph:=fun args S Kt => ∃ p c0 n,args = [.val (.ref p)] ∧ S p = some c0 ∧ PenC c0 n ∧ n ≤ 80000 ∧ ∀ l a b c d k,Lot l a b c d → PenC k (n + 40) → Kt l (updS S p k)
def KindOk (k n:Str) (ps:List Tm) (m:Bool):Prop:=(k = "row" ∧ ps = []) ∨ (k = "column" ∧ m = false ∧ ∃ t mm,ps = [.mk "row" t [] mm] ∧ t.length ≤ 30) ∨ (k = "place" ∧ n = "" ∧ m = false ∧ ∃ t mm,ps = [.mk "row" t [] mm] ∧ t.length ≤ 30) ∨ (k = "zero" ∧ n = "" ∧ ps = [] ∧ m = false) ∨ ((k = "function" ∨ k = "rule") ∧ m = false ∧ ps ≠ [])
def MdOk:Nat → Tm → Prop
 | 0,_ => False
 | d + 1,.mk k n ps m => n.length ≤ 30 ∧ (Tm.text (.mk k n ps m)).length ≤ 20000 ∧ ps.length ≤ 3 ∧ (∀ p ∈ ps,MdOk d p) ∧ KindOk k n ps m
theorem MdOk.mono:∀ {d e:Nat} {t:Tm},MdOk d t → d ≤ e → MdOk e t
 | 0,_,_,h,_ => h.elim
 | d + 1,0,_,_,l => absurd l (by omega)
 | d + 1,e + 1,.mk k n ps m,⟨h1,h2,h3,h4,h5⟩,l => ⟨h1,h2,h3,fun p hp => MdOk.mono (h4 p hp) (by omega),h5⟩
theorem MdOk.len {d:Nat} {t:Tm} (h:MdOk d t):t.text.length ≤ 20000:=by
 match d,t,h with
 | d + 1,.mk k n ps m,h => exact h.2.1
theorem lits:Str.length "'" = 1 ∧ Str.length "." = 1 ∧ Str.length "@" = 1 ∧ Str.length "(" = 1 ∧ Str.length ")" = 1 ∧ Str.length "[" = 1 ∧ Str.length "]" = 1 ∧ Str.length ", " = 2 ∧ Str.length "0" = 1 ∧ Str.length "" = 0:=by decide +kernel
theorem row_text {t:Str} {m:Bool} (h:t.length ≤ 30):(Tm.text (.mk "row" t [] m)).length ≤ 31:=by
 have l1:=lits.1
 rw [Tm.text,wr,if_pos rfl]
 split
 ·rw [lenA]; omega
 ·omega
theorem row_ok {t:Str} {m:Bool} (h:t.length ≤ 30):MdOk 1 (.mk "row" t [] m):=⟨h,by have:=row_text (m:=m) h; omega,by simp,by simp,.inl ⟨rfl,rfl⟩⟩
theorem col_text {t n:Str} {m:Bool} (h:t.length ≤ 30) (h2:n.length ≤ 30):(Tm.text (.mk "column" n [.mk "row" t [] m] false)).length ≤ 62:=by
 have l1:=lits.2.1
 have:=row_text (m:=m) h
 rw [Tm.text,wr,if_neg (by decide),if_pos rfl]
 show (Tm.text (.mk "row" t [] m) ++ "." ++ n).length ≤ 62
 rw [lenA,lenA]; omega
theorem col_ok {t n:Str} {m:Bool} (h:t.length ≤ 30) (h2:n.length ≤ 30):MdOk 2 (.mk "column" n [.mk "row" t [] m] false) :=
 ⟨h2,by have:=col_text (m:=m) h h2; omega,by simp,by simpa using row_ok h,.inr (.inl ⟨rfl,rfl,t,m,rfl,h⟩)⟩
theorem place_ok {t:Str} {m:Bool} (h:t.length ≤ 30):MdOk 2 (.mk "place" "" [.mk "row" t [] m] false):=by
 refine ⟨by decide,?_,by simp,by simpa using row_ok h,.inr (.inr (.inl ⟨rfl,rfl,rfl,t,m,rfl,h⟩))⟩
 have:=row_text (m:=m) h
 have l1:=lits.2.2.1
 rw [Tm.text,wr,if_neg (by decide),if_neg (by decide),if_pos rfl]
 show (("@" : Str) ++ Tm.text (.mk "row" t [] m)).length ≤ 20000
 rw [lenA]; omega
theorem zero_ok:MdOk 1 (.mk "zero" "" [] false):=⟨by decide,by decide +kernel,by simp,by simp,.inr (.inr (.inr (.inl ⟨rfl,rfl,rfl,rfl⟩)))⟩
def sumT (ps:List Tm):Nat:=(ps.map (·.text.length)).sum
theorem app_text {k n:Str} {ps:List Tm} (hk:k = "function" ∨ k = "rule") (hn:n.length ≤ 30) (h3:ps.length ≤ 3):(Tm.text (.mk k n ps false)).length ≤ sumT ps + 38:=by
 have j:=join_len ", " (ps.map Tm.text)
 have l:=lits
 rw [List.length_map,List.map_map] at j
 have e:sumT ps = (ps.map ((fun x:Str => x.length) ∘ Tm.text)).sum:=rfl
 rw [← e,l.2.2.2.2.2.2.2.1] at j
 rcases hk with rfl | rfl
 ·rw [Tm.text,texts_map,wr,if_neg (by decide),if_neg (by decide),if_neg (by decide),if_neg (by decide),if_pos rfl,lenA,lenA,lenA]; omega
 ·rw [Tm.text,texts_map,wr,if_neg (by decide),if_neg (by decide),if_neg (by decide),if_neg (by decide),if_neg (by decide),lenA,lenA,lenA]; omega
theorem app_ok {d:Nat} {k n:Str} {ps:List Tm} (hk:k = "function" ∨ k = "rule") (hn:n.length ≤ 30) (h3:ps.length ≤ 3) (h0:ps ≠ []) (hp:∀ p ∈ ps,MdOk d p) (hs:sumT ps ≤ 19000):MdOk (d + 1) (.mk k n ps false) :=
 ⟨hn,by have:=app_text hk hn h3; omega,h3,hp,.inr (.inr (.inr (.inr ⟨hk,rfl,h0⟩)))⟩
theorem sumT_ins {ps:List Tm} {j:Nat} {q:Tm}:sumT (ps.take j ++ [q] ++ ps.drop j) = sumT ps + q.text.length:=by
 have:sumT ps = sumT (ps.take j) + sumT (ps.drop j):=by
  unfold sumT
  rw [← List.sum_append_nat,← List.map_append,List.take_append_drop]
 rw [this]
 simp only [sumT,List.map_append,List.sum_append_nat,List.map_cons,List.map_nil,List.sum_cons,List.sum_nil]
 omega
def Vl:Nat → Tm → Prop
 | 0,_ => False
 | d + 1,.mk k n ps m => Nm n ∧ m = false ∧ ((k = "column" ∧ ∃ t mm,ps = [.mk "row" t [] mm] ∧ Nm t) ∨ (k = "function" ∧ ps ≠ [] ∧ ps.length ≤ 3 ∧ ∀ p ∈ ps,Vl d p))
theorem Vl.mono:∀ {d e:Nat} {t:Tm},Vl d t → d ≤ e → Vl e t
 | 0,_,_,h,_ => h.elim
 | d + 1,0,_,_,l => absurd l (by omega)
 | d + 1,e + 1,.mk k n ps m,⟨h1,h2,h3⟩,l => ⟨h1,h2,h3.imp id fun ⟨a,b,c,h⟩ => ⟨a,b,c,fun p hp => Vl.mono (h p hp) (by omega)⟩⟩
def Rd (d:Nat) (t:Tm):Prop:=(∃ n m,t = .mk "row" n [] m ∧ Nm n) ∨ (∃ n m,t = .mk "place" "" [.mk "row" n [] m] false ∧ Nm n) ∨ (t = .mk "zero" "" [] false) ∨ (∃ n ps,t = .mk "rule" n ps false ∧ Nm n ∧ ps ≠ [] ∧ ps.length ≤ 3 ∧ ∀ p ∈ ps,Vl d p) ∨ Vl d t
theorem Rd.mono {d e:Nat} {t:Tm} (h:Rd d t) (l:d ≤ e):Rd e t:=by
 rcases h with h | h | h | ⟨n,ps,h1,h2,h3,h4,h5⟩ | h
 ·exact .inl h
 ·exact .inr (.inl h)
 ·exact .inr (.inr (.inl h))
 ·exact .inr (.inr (.inr (.inl ⟨n,ps,h1,h2,h3,h4,fun p hp => (h5 p hp).mono l⟩)))
 ·exact .inr (.inr (.inr (.inr (h.mono l))))
def Vo (d:Nat) (t:Tm):Prop:=MdOk d t ∧ Vl d t
theorem Vo.mono {d e:Nat} {t:Tm} (h:Vo d t) (l:d ≤ e):Vo e t:=⟨h.1.mono l,h.2.mono l⟩
theorem col_vo {t n:Str} {m:Bool} (h:Nm t) (h2:Nm n):Vo 2 (.mk "column" n [.mk "row" t [] m] false):=⟨col_ok h.len h2.len,h2,rfl,.inl ⟨rfl,t,m,rfl,h⟩⟩
theorem fun_vo {d:Nat} {n:Str} {ps:List Tm} (hn:Nm n) (h3:ps.length ≤ 3) (h0:ps ≠ []) (hp:∀ p ∈ ps,Vo d p) (hs:sumT ps ≤ 19000):Vo (d + 1) (.mk "function" n ps false) :=
 ⟨app_ok (.inl rfl) hn.len h3 h0 (fun p q => (hp p q).1) hs,hn,rfl,.inr ⟨rfl,h0,h3,fun p q => (hp p q).2⟩⟩
def Mo (d:Nat) (t:Tm):Prop:=MdOk d t ∧ Rd d t
theorem Mo.mono {d e:Nat} {t:Tm} (h:Mo d t) (l:d ≤ e):Mo e t:=⟨h.1.mono l,h.2.mono l⟩
theorem Vo.mo {d:Nat} {t:Tm} (h:Vo d t):Mo d t:=⟨h.1,.inr (.inr (.inr (.inr h.2)))⟩
theorem row_mo {t:Str} {m:Bool} (h:Nm t):Mo 1 (.mk "row" t [] m):=⟨row_ok h.len,.inl ⟨t,m,rfl,h⟩⟩
theorem place_mo {t:Str} {m:Bool} (h:Nm t):Mo 2 (.mk "place" "" [.mk "row" t [] m] false):=⟨place_ok h.len,.inr (.inl ⟨t,m,rfl,h⟩)⟩
theorem zero_mo:Mo 1 (.mk "zero" "" [] false):=⟨zero_ok,.inr (.inr (.inl rfl))⟩
theorem rule_mo {d:Nat} {n:Str} {ps:List Tm} (hn:Nm n) (h3:ps.length ≤ 3) (h0:ps ≠ []) (hp:∀ p ∈ ps,Vo d p) (hs:sumT ps ≤ 19000):Mo (d + 1) (.mk "rule" n ps false) :=
 ⟨app_ok (.inr rfl) hn.len h3 h0 (fun p q => (hp p q).1) hs,.inr (.inr (.inr (.inl ⟨n,ps,rfl,hn,h0,h3,fun p q => (hp p q).2.mono (by omega)⟩)))⟩
def ValOk (d L:Nat) (t:Tm):Prop:=Vo d t ∧ t.text.length ≤ L
def phRowM:Ph:=fun args S Kt => ∃ p c0 n l a b c d,args = [.val (.ref p),.val l] ∧ Lot l a b c d ∧ S p = some c0 ∧ PenC c0 n ∧ n ≤ 99000 ∧ ∀ t m k,Nm t → PenC k (n + 2) → Kt (mdD (.mk "row" t [] m)) (updS S p k)
def phColM:Ph:=fun args S Kt => ∃ p c0 n l a b c d,args = [.val (.ref p),.val l] ∧ Lot l a b c d ∧ S p = some c0 ∧ PenC c0 n ∧ n ≤ 98000 ∧ ∀ t u m k,Nm t → Nm u → PenC k (n + 3) → Kt (mdD (.mk "column" u [.mk "row" t [] m] false)) (updS S p k)
section
variable {P:Program} {w:World} {K:PySem.W.Frag} {mg:Str → Option Value} {base:Heap} {C aW:Addr}
theorem cLot (Df:Dfn K mg "_law_lot" s_law_lot) (T:Txt K mg C aW) (cDraw:Cal P w K mg base 1 "_law_draw" (spD K phDraw)) (cNames:Cal P w K mg base 2 "_law_names" (spD K phNames)):Cal P w K mg base 3 "_law_lot" (spD K phLot):=by
 refine dcal Df sc_law_lot (fun _ _ _ _ _ _ us hl => match us,hl with | [_],_ => rfl) (fun args S Kt h => by obtain ⟨p,c0,n,rfl,_⟩:=h; rfl) (fun f cdv A outer s H E hr => ⟨_,(s_cons (s_set (i:=1) sc_law_lot.nd rfl (Or.inl rfl) (d_call cNames hr (by one_item) (by rfl) (a_v (d_v (pv 0)) (a_v d_int a_nil))))
   (s_cons (s_if (dt_cmp op_eq l_eq (d_call cDraw hr (by one_item) (by rfl) (a_v (d_v (pv 0)) (a_v d_int a_nil))) d_int (nomark _)) (s_one (s_ret (d_n (n_lst (a_v (d_n (n_sl (d_v (pv 1)) o_no (o_sm d_int))) (a_v (d_n (n_sl (d_v (pv 1)) o_no (o_sm d_int))) (a_v (d_n (n_sl (d_v (pv 1)) o_no (o_sm d_int))) (a_v (d_n (n_sl (d_v (pv 1)) o_no (o_sm d_int))) a_nil)))))))) s_nil)
   (s_one (s_ret (d_n (n_lst (a_v (d_n (n_sl (d_v (pv 1)) o_no (o_sm d_int))) (a_v (d_n (n_sl (d_v (pv 1)) (o_sm d_int) (o_sm d_int))) (a_v (d_n (n_sl (d_v (pv 1)) (o_sm d_int) (o_sm d_int))) (a_v (d_n (n_sl (d_v (pv 1)) (o_sm d_int) o_no)) a_nil)))))))))),fun args S Kt h => ?_⟩)
 obtain ⟨p,c0,n,rfl,hS,pc,hn,k⟩:=h
 one_sign
 refine ⟨p,c0,n,12,rfl,hS,pc,by omega,by omega,fun ys c1 ly hy pc1 => ?_⟩
 one_sign
 refine ⟨p,c1,_,_,rfl,updS_same,pc1,by decide,by decide,by omega,fun d1 c2 h1 h2 pc2 => ?_⟩
 have lot:∀ o1 o2 o3 o4 o5 o6 o7 o8,min (HT.sIx 12 12 o2 - HT.sIx 12 0 o1) (12 - HT.sIx 12 0 o1) = 3 → min (HT.sIx 12 12 o4 - HT.sIx 12 0 o3) (12 - HT.sIx 12 0 o3) = 4 → min (HT.sIx 12 12 o6 - HT.sIx 12 0 o5) (12 - HT.sIx 12 0 o5) = 3 → min (HT.sIx 12 12 o8 - HT.sIx 12 0 o7) (12 - HT.sIx 12 0 o7) = 2 →
   Kt (.lst [.lst (cutD (ys.map GD.D.str) o1 o2),.lst (cutD (ys.map GD.D.str) o3 o4),.lst (cutD (ys.map GD.D.str) o5 o6),.lst (cutD (ys.map GD.D.str) o7 o8)]) (updS S p c2):=by
  intro o1 o2 o3 o4 o5 o6 o7 o8 e1 e2 e3 e4
  obtain ⟨a,a1,a2,a3⟩:=cut12 ly o1 o2
  obtain ⟨b,b1,b2,b3⟩:=cut12 ly o3 o4
  obtain ⟨c,d1,d2,d3⟩:=cut12 ly o5 o6
  obtain ⟨d,f1,f2,f3⟩:=cut12 ly o7 o8
  rw [a1,b1,d1,f1]
  exact k _ a b c d c2 ⟨rfl,a2.trans e1,b2.trans e2,d2.trans e3,f2.trans e4,fun x h => hy x (a3 x h),fun x h => hy x (b3 x h),fun x h => hy x (d3 x h),fun x h => hy x (f3 x h)⟩ (pc2.le (by omega))
 one_sign
 split
 ·refine lot _ _ _ _ _ _ _ _ ?_ ?_ ?_ ?_ <;> decide +kernel
 ·refine lot _ _ _ _ _ _ _ _ ?_ ?_ ?_ ?_ <;> decide +kernel
theorem cRow (Df:Dfn K mg "_law_row" s_law_row) (T:Txt K mg C aW) (cDraw:Cal P w K mg base 1 "_law_draw" (spD K phDraw)):Cal P w K mg base 2 "_law_row" (spD K phRowM):=by
 refine dcal Df sc_law_row (fun _ _ _ _ _ _ us hl => match us,hl with | [_,_],_ => rfl) (fun args S Kt h => by obtain ⟨p,c0,n,l,a,b,c,d,rfl,_⟩:=h; rfl) (fun f cdv A outer s H E hr => ⟨_,(s_one (s_ret (d_tup (a_v d_str (a_v (d_ix (d_ix (d_v (pv 1)) d_int (fun _ _ => rfl)) (d_call cDraw hr (by one_item) (by rfl) (a_v (d_v (pv 0)) (a_v d_int a_nil))) (fun _ _ => rfl)) (a_v (d_tup a_nil) (a_v (d_cmp op_eq l_eq (d_call cDraw hr (by one_item) (by rfl) (a_v (d_v (pv 0)) (a_v d_int a_nil))) d_int (nomark _)) a_nil))))))),fun args S Kt h => ?_⟩)
 obtain ⟨p,c0,n,l,a,b,c,d,rfl,lt,hS,pc,hn,k⟩:=h
 obtain rfl:=lt.e
 one_sign
 refine ⟨_,rfl,p,c0,_,_,rfl,hS,pc,by decide,by decide,by omega,fun d1 c1 h1 h2 pc1 => ?_⟩
 simp only [nms]
 one_sign
 obtain ⟨x,hx,mx⟩:=str_at (l:=a) h1 (by rw [lt.la]; exact h2)
 refine ⟨x,hx,p,c1,_,_,rfl,updS_same,pc1,by decide,by decide,by omega,fun d2 c2 h3 h4 pc2 => ?_⟩
 one_sign
 have:=k x (decide (d2 = 0)) c2 (lt.ha x mx) (pc2.le (by omega))
 rw [mdD_eq] at this
 exact this
theorem cColumn (Df:Dfn K mg "_law_column" s_law_column) (T:Txt K mg C aW) (cDraw:Cal P w K mg base 1 "_law_draw" (spD K phDraw)) (cRow:Cal P w K mg base 2 "_law_row" (spD K phRowM)):Cal P w K mg base 3 "_law_column" (spD K phColM):=by
 refine dcal Df sc_law_column (fun _ _ _ _ _ _ us hl => match us,hl with | [_,_],_ => rfl) (fun args S Kt h => by obtain ⟨p,c0,n,l,a,b,c,d,rfl,_⟩:=h; rfl) (fun f cdv A outer s H E hr => ⟨_,(s_one (s_ret (d_tup (a_v d_str (a_v (d_ix (d_ix (d_v (pv 1)) d_int (fun _ _ => rfl)) (d_call cDraw hr (by one_item) (by rfl) (a_v (d_v (pv 0)) (a_v d_int a_nil))) (fun _ _ => rfl)) (a_v (d_tup (a_v (d_call cRow hr (by one_item) (by rfl) (a_v (d_v (pv 0)) (a_v (d_v (pv 1)) a_nil))) a_nil)) (a_v d_bl a_nil))))))),fun args S Kt h => ?_⟩)
 obtain ⟨p,c0,n,l,a,b,c,d,rfl,lt,hS,pc,hn,k⟩:=h
 have lt0:=lt
 obtain rfl:=lt.e
 one_sign
 refine ⟨_,rfl,p,c0,_,_,rfl,hS,pc,by decide,by decide,by omega,fun d1 c1 h1 h2 pc1 => ?_⟩
 simp only [nms]
 one_sign
 obtain ⟨x,hx,mx⟩:=str_at (l:=b) h1 (by rw [lt.lb]; exact h2)
 refine ⟨x,hx,p,c1,_,_,a,b,c,d,rfl,lt0,updS_same,pc1,by omega,fun t m c2 ht pc2 => ?_⟩
 one_sign
 have:=k t x m c2 ht (lt.hb x mx) (pc2.le (by omega))
 rw [mdD_eq] at this
 exact this
def phValue:Ph:=fun args S Kt => ∃ p c0 n l a b c d,∃ lv:Nat,args = [.val (.ref p),.val l,.val (.int lv)] ∧ Lot l a b c d ∧ S p = some c0 ∧ PenC c0 n ∧ n ≤ 90000 ∧ lv ≤ 7 ∧ ∀ t k,ValOk (lv + 3) (62 + 240 * lv) t → PenC k (n + 200) → Kt (mdD t) (updS S p k)
theorem cValue (Df:Dfn K mg "_law_value" s_law_value) (T:Txt K mg C aW) (cDraw:Cal P w K mg base 1 "_law_draw" (spD K phDraw)) (cColumn:Cal P w K mg base 3 "_law_column" (spD K phColM)):Cal P w K mg base 4 "_law_value" (spD K phValue):=by
 refine dcal Df sc_law_value (fun _ _ _ _ _ _ us hl => match us,hl with | [_,_,_],_ => rfl) (fun args S Kt h => by obtain ⟨p,c0,n,l,a,b,c,d,lv,rfl,_⟩:=h; rfl) (fun f cdv A outer s H E hr => ⟨_,(s_cons (s_set (i:=3) sc_law_value.nd rfl (Or.inl rfl) (d_call cColumn hr (by one_item) (by rfl) (a_v (d_v (pv 0)) (a_v (d_v (pv 1)) a_nil))))
   (s_cons (s_for PassesOwn.never rfl (i_rng (by rfl) T.n_range (a_v (d_v (pv 2)) a_nil)) (g_name (pg_name (i:=4) sc_law_value.nd rfl (Or.inl rfl)))
   (s_cons (s_own (i:=5) sc_law_value.nd rfl (Or.inl rfl) (n_lst (a_v (d_v (pv 3)) a_nil)))
   (s_cons (s_for PassesOwn.never rfl (i_rng (by rfl) T.n_range (a_v (d_call cDraw hr (by one_item) (by rfl) (a_v (d_v (pv 0)) (a_v d_int a_nil))) a_nil)) (g_name (pg_name (i:=6) sc_law_value.nd rfl (Or.inl rfl)))
   (s_cons (s_set (i:=7) sc_law_value.nd rfl (Or.inl rfl) (d_call cColumn hr (by one_item) (by rfl) (a_v (d_v (pv 0)) (a_v (d_v (pv 1)) a_nil))))
   (s_cut (s_if (dt_w (dw_and (dt_cmp op_lt l_lt (d_v (pv 2)) d_int (nomark _)) (dw_and1 (dt_cmp op_eq l_eq (d_call cDraw hr (by one_item) (by rfl) (a_v (d_v (pv 0)) (a_v d_int a_nil))) d_int (nomark _))))) (s_one (s_set (i:=7) sc_law_value.nd rfl (Or.inl rfl) (d_tup (a_v d_str (a_v (d_ix (d_ix (d_v (pv 1)) d_int (fun _ _ => rfl)) (d_call cDraw hr (by one_item) (by rfl) (a_v (d_v (pv 0)) (a_v d_int a_nil))) (fun _ _ => rfl)) (a_v (d_tup (a_v (d_v (pv 7)) a_nil)) (a_v d_bl a_nil))))))) s_nil)
   (s_one (s_expr (d_ins (pv 5) (d_call cDraw hr (by one_item) (by rfl) (a_v (d_v (pv 0)) (a_v (d_add (d_len (by rfl) T.n_len (s_s (pv 5))) d_int) a_nil))) (d_v (pv 7))))))))
   (s_one (s_set (i:=3) sc_law_value.nd rfl (Or.inl rfl) (d_tup (a_v d_str (a_v (d_ix (d_ix (d_v (pv 1)) d_int (fun _ _ => rfl)) (d_call cDraw hr (by one_item) (by rfl) (a_v (d_v (pv 0)) (a_v d_int a_nil))) (fun _ _ => rfl)) (a_v (d_tupL (by rfl) T.n_tuple (l_s (pv 5))) (a_v d_bl a_nil))))))))))
   (s_one (s_ret (d_v (pv 3)))))),fun args S Kt h => ?_⟩)
 obtain ⟨p,c0,n,l,a,b,c,d,lv,rfl,lt,hS,pc,hn,hlv,k⟩:=h
 have lt0:=lt
 obtain rfl:=lt.e
 have ix:∀ x:Int,0 ≤ x → x < 3 → ∃ y,atI c x = some y ∧ y ∈ c:=fun x h1 h2 => str_at h1 (by rw [lt.lc]; exact h2)
 one_sign
 refine ⟨p,c0,_,_,a,b,c,d,rfl,lt0,hS,pc,by omega,fun t u m c1 ht hu pc1 => ?_⟩
 one_sign
 have en:(lv:Int).toNat = lv:=rfl
 refine ⟨by omega,by omega,?_⟩
 rw [en]
 let vs (v x1 x2 x3 x4:Sl):List Sl:=[.val (.ref p),.val (.lst [nms a,nms b,nms c,nms d]),.val (.int lv),v,x1,x2,x3,x4]
 let I:Nat → DS → Prop:=fun i δ => ∃ (t:Tm) (x1 x2 x3 x4:Sl) (c':Cell),δ = ⟨vs (.val (mdD t)) x1 x2 x3 x4,updS S p c'⟩ ∧ ValOk (i + 3) (62 + 240 * i) t ∧ PenC c' (n + 3 + 20 * i)
 refine for_inv I ⟨_,.no,.no,.no,.no,c1,rfl,⟨(col_vo ht hu).mono (by omega),by have:=col_text (m:=m) ht.len hu.len; omega⟩,pc1.le (by omega)⟩ ?_ ?_
 ·rintro i _ _ hi ⟨t,x1,x2,x3,x4,c2,rfl,vt,pc2⟩
  obtain ⟨hi',rfl⟩:=rng_at hi
  simp only [vs]
  one_sign
  refine ⟨p,c2,_,_,rfl,updS_same,pc2,by decide,by decide,by omega,fun d1 c3 h1 h2 pc3 => ?_⟩
  one_sign
  refine ⟨by omega,by omega,?_⟩
  obtain ⟨w1,rfl⟩:=Int.eq_ofNat_of_zero_le h1
  have en1:(w1:Int).toNat = w1:=rfl
  rw [en1]
  let J:Nat → DS → Prop:=fun j δ => ∃ (ps:List Tm) (y3 y4:Sl) (c':Cell),δ = ⟨vs (.val (mdD t)) (.val (.int (0 + (i:Int)))) (.own (ps.map mdD)) y3 y4,updS S p c'⟩ ∧ ps.length = j + 1 ∧ (∀ q ∈ ps,Vo (i + 3) q) ∧ sumT ps ≤ 62 + 240 * i + 100 * j ∧ PenC c' (n + 4 + 20 * i + 6 * j)
  refine for_inv J ⟨[t],x3,x4,c3,rfl,rfl,by simpa using vt.1,by simpa [sumT] using vt.2,pc3.le (by omega)⟩ ?_ ?_
  ·rintro j _ _ hj ⟨ps,y3,y4,c4,rfl,lp,hp,sp,pc4⟩
   obtain ⟨hj',rfl⟩:=rng_at hj
   simp only [vs]
   one_sign
   refine ⟨p,c4,_,_,a,b,c,d,rfl,lt0,updS_same,pc4,by omega,fun t2 u2 m2 c5 ht2 hu2 pc5 => ?_⟩
   one_sign
   have cok:=(col_vo (m:=m2) ht2 hu2).mono (show 2 ≤ i + 3 by omega)
   have clen:=col_text (m:=m2) ht2.len hu2.len
   refine cut_of (fun δ => ∃ (q:Tm) (c':Cell),δ = ⟨vs (.val (mdD t)) (.val (.int (0 + (i:Int)))) (.own (ps.map mdD)) (.val (.int (0 + (j:Int)))) (.val (mdD q)),updS S p c'⟩ ∧ Vo (i + 3) q ∧ q.text.length ≤ 100 ∧ PenC c' (n + 4 + 20 * i + 6 * j + 5)) ?_ ?_
   ·one_sign
    split
    ·refine ⟨p,c5,_,_,rfl,updS_same,pc5,by decide,by decide,by omega,fun d2 c6 h3 h4 pc6 => ?_⟩
     one_sign
     split
     ·refine ⟨_,rfl,p,c6,_,_,rfl,updS_same,pc6,by decide,by decide,by omega,fun d3 c7 h5 h6 pc7 => ?_⟩
      obtain ⟨y,hy,my⟩:=ix d3 h5 h6
      simp only [nms]
      one_sign
      refine ⟨y,hy,.mk "function" y [.mk "column" u2 [.mk "row" t2 [] m2] false] false,c7,?_,fun_vo (d:=2) (lt.hc y my) (by simp) (by simp) (by simpa using col_vo ht2 hu2) (by simp [sumT]; omega) |>.mono (by omega),?_,pc7.le (by omega)⟩
      ·rw [mdD_eq]; rfl
      ·have:=app_text (k := "function") (n:=y) (ps:=[.mk "column" u2 [.mk "row" t2 [] m2] false]) (.inl rfl) (lt.hc y my).len (by simp)
       simp only [sumT,List.map_cons,List.map_nil,List.sum_cons,List.sum_nil] at this
       omega
     ·exact ⟨_,c6,rfl,cok,by omega,pc6.le (by omega)⟩
    ·exact ⟨_,c5,rfl,cok,by omega,pc5.le (by omega)⟩
   ·rintro _ ⟨q,c8,rfl,qok,ql,pc8⟩
    simp only [vs]
    one_sign
    refine ⟨p,c8,_,_,rfl,updS_same,pc8,by omega,by simp; omega,by omega,fun d4 c9 h7 h8 pc9 => ?_⟩
    one_sign
    refine ⟨h7,by simp at h8; omega,by simp; omega,?_⟩
    refine ⟨ps.take d4.toNat ++ [q] ++ ps.drop d4.toNat,.val (.int (0 + (j:Int))),.val (mdD q),c9,?_,?_,?_,?_,pc9.le (by omega)⟩
    ·simp only [vs,List.map_append,List.map_take,List.map_drop,List.map_cons,List.map_nil]
    ·simp; omega
    ·intro z hz
     simp only [List.mem_append,List.mem_singleton] at hz
     rcases hz with (hz | hz) | hz
     ·exact hp z (List.mem_of_mem_take hz)
     ·rw [hz]; exact qok
     ·exact hp z (List.mem_of_mem_drop hz)
    ·rw [sumT_ins]; omega
  ·rintro _ ⟨ps,y3,y4,c4,rfl,lp,hp,sp,pc4⟩
   have l3:w1 ≤ 2:=by omega
   have lr:(rngD 0 w1).length = w1:=by simp [rngD]
   rw [lr] at lp sp pc4
   simp only [vs]
   one_sign
   refine ⟨_,rfl,p,c4,_,_,rfl,updS_same,pc4,by decide,by decide,by omega,fun d5 c5 h5 h6 pc5 => ?_⟩
   obtain ⟨y,hy,my⟩:=ix d5 h5 h6
   simp only [nms]
   one_sign
   refine ⟨y,hy,.mk "function" y ps false,.val (.int (0 + (i:Int))),.own (ps.map mdD),y3,y4,c5,?_,⟨fun_vo (lt.hc y my) (by omega) (by intro z; subst z; simp at lp) hp (by omega),?_⟩,pc5.le (by omega)⟩
   ·rw [mdD_eq]; rfl
   ·have:=app_text (k := "function") (n:=y) (ps:=ps) (.inl rfl) (lt.hc y my).len (by omega)
    omega
 ·rintro _ ⟨t,x1,x2,x3,x4,c2,rfl,vt,pc2⟩
  have lr:(rngD 0 lv).length = lv:=by simp [rngD]
  rw [lr] at vt pc2
  simp only [vs]
  one_sign
  exact k t c2 vt (pc2.le (by omega))
theorem place_text {t:Str} {m:Bool} (h:t.length ≤ 30):(Tm.text (.mk "place" "" [.mk "row" t [] m] false)).length ≤ 2400:=by
 have:=row_text (m:=m) h
 have l1:=lits.2.2.1
 rw [Tm.text,wr,if_neg (by decide),if_neg (by decide),if_pos rfl]
 show (("@" : Str) ++ Tm.text (.mk "row" t [] m)).length ≤ 2400
 rw [lenA]; omega
def phTermM:Ph:=fun args S Kt => ∃ p c0 n l a b c d,args = [.val (.ref p),.val l] ∧ Lot l a b c d ∧ S p = some c0 ∧ PenC c0 n ∧ n ≤ 80000 ∧ ∀ t k,Mo 11 t → t.text.length ≤ 2400 → PenC k (n + 300) → Kt (mdD t) (updS S p k)
theorem lv_at {x:Int} (h0:0 ≤ x) (h1:x < 6):∃ lv:Nat,atI ([.int 0,.int 0,.int 1,.int 2,.int 3,.int 7]:List GD.D) x = some (.int lv) ∧ lv ≤ 7:=by
 obtain ⟨j,rfl⟩:=Int.eq_ofNat_of_zero_le h0
 have:j < 6:=by omega
 match j,this with
 | 0,_ => exact ⟨0,rfl,by decide⟩
 | 1,_ => exact ⟨0,rfl,by decide⟩
 | 2,_ => exact ⟨1,rfl,by decide⟩
 | 3,_ => exact ⟨2,rfl,by decide⟩
 | 4,_ => exact ⟨3,rfl,by decide⟩
 | 5,_ => exact ⟨7,rfl,by decide⟩
theorem cTerm (Df:Dfn K mg "_law_term" s_law_term) (T:Txt K mg C aW) (cDraw:Cal P w K mg base 1 "_law_draw" (spD K phDraw)) (cRow:Cal P w K mg base 2 "_law_row" (spD K phRowM)) (cColumn:Cal P w K mg base 3 "_law_column" (spD K phColM)) (cValue:Cal P w K mg base 4 "_law_value" (spD K phValue)):Cal P w K mg base 5 "_law_term" (spD K phTermM):=by
 refine dcal Df sc_law_term (fun _ _ _ _ _ _ us hl => match us,hl with | [_,_],_ => rfl) (fun args S Kt h => by obtain ⟨p,c0,n,l,a,b,c,d,rfl,_⟩:=h; rfl) (fun f cdv A outer s H E hr => ⟨_,(s_cons (s_set (i:=2) sc_law_term.nd rfl (Or.inl rfl) (d_call cDraw hr (by one_item) (by rfl) (a_v (d_v (pv 0)) (a_v d_int a_nil))))
   (s_cons (s_set (i:=3) sc_law_term.nd rfl (Or.inl rfl) (d_ix (d_n (n_lst (a_v d_int (a_v d_int (a_v d_int (a_v d_int (a_v d_int (a_v d_int a_nil)))))))) (d_call cDraw hr (by one_item) (by rfl) (a_v (d_v (pv 0)) (a_v d_int a_nil))) (fun _ _ => rfl)))
   (s_cons (s_if (dt_cmp op_eq l_eq (d_v (pv 2)) d_int (nomark _)) (s_one (s_ret (d_call cRow hr (by one_item) (by rfl) (a_v (d_v (pv 0)) (a_v (d_v (pv 1)) a_nil))))) s_nil)
   (s_cons (s_if (dt_cmp op_eq l_eq (d_v (pv 2)) d_int (nomark _)) (s_one (s_ret (d_tup (a_v d_str (a_v d_str (a_v (d_tup (a_v (d_call cRow hr (by one_item) (by rfl) (a_v (d_v (pv 0)) (a_v (d_v (pv 1)) a_nil))) a_nil)) (a_v d_bl a_nil))))))) s_nil)
   (s_cons (s_if (dt_cmp op_eq l_eq (d_v (pv 2)) d_int (nomark _)) (s_one (s_ret (d_tup (a_v d_str (a_v d_str (a_v (d_tup a_nil) (a_v d_bl a_nil))))))) s_nil)
   (s_cons (s_if (dt_cmp op_gt l_gt (d_v (pv 2)) d_int (nomark _)) (s_one (s_ret (d_call cValue hr (by one_item) (by rfl) (a_v (d_v (pv 0)) (a_v (d_v (pv 1)) (a_v (d_v (pv 3)) a_nil)))))) s_nil)
   (s_cons (s_own (i:=4) sc_law_term.nd rfl (Or.inl rfl) (n_lst (a_v (d_call cValue hr (by one_item) (by rfl) (a_v (d_v (pv 0)) (a_v (d_v (pv 1)) (a_v (d_v (pv 3)) a_nil)))) a_nil)))
   (s_cons (s_for PassesOwn.never rfl (i_rng (by rfl) T.n_range (a_v (d_call cDraw hr (by one_item) (by rfl) (a_v (d_v (pv 0)) (a_v (d_ix (d_n (n_lst (a_v d_int (a_v d_int a_nil)))) (d_toInt (by rfl) T.n_int (d_cmp op_gt l_gt (d_v (pv 3)) d_int (nomark _))) (fun _ _ => rfl)) a_nil))) a_nil)) (g_name (pg_name (i:=5) sc_law_term.nd rfl (Or.inl rfl)))
   (s_one (s_expr (d_ins (pv 4) (d_call cDraw hr (by one_item) (by rfl) (a_v (d_v (pv 0)) (a_v (d_add (d_len (by rfl) T.n_len (s_s (pv 4))) d_int) a_nil))) (d_call cColumn hr (by one_item) (by rfl) (a_v (d_v (pv 0)) (a_v (d_v (pv 1)) a_nil)))))))
   (s_one (s_ret (d_tup (a_v d_str (a_v (d_ix (d_ix (d_v (pv 1)) d_int (fun _ _ => rfl)) (d_call cDraw hr (by one_item) (by rfl) (a_v (d_v (pv 0)) (a_v d_int a_nil))) (fun _ _ => rfl)) (a_v (d_tupL (by rfl) T.n_tuple (l_s (pv 4))) (a_v d_bl a_nil))))))))))))))),fun args S Kt h => ?_⟩)
 obtain ⟨p,c0,n,l,a,b,c,d,rfl,lt,hS,pc,hn,k⟩:=h
 have lt0:=lt
 obtain rfl:=lt.e
 one_sign
 refine ⟨p,c0,_,_,rfl,hS,pc,by decide,by decide,by omega,fun d1 c1 h1 h2 pc1 => ?_⟩
 one_sign
 refine ⟨p,c1,_,_,rfl,updS_same,pc1,by decide,by decide,by omega,fun d2 c2 h3 h4 pc2 => ?_⟩
 obtain ⟨lv,elv,hlv⟩:=lv_at h3 h4
 one_sign
 refine ⟨_,elv,?_⟩
 one_sign
 split
 ·refine ⟨p,c2,_,_,a,b,c,d,rfl,lt0,updS_same,pc2,by omega,fun t m c3 ht pc3 => ?_⟩
  one_sign
  exact k _ c3 ((row_mo ht).mono (by omega)) (Nat.le_trans (row_text ht.len) (by decide)) (pc3.le (by omega))
 ·split
  ·refine ⟨p,c2,_,_,a,b,c,d,rfl,lt0,updS_same,pc2,by omega,fun t m c3 ht pc3 => ?_⟩
   one_sign
   have:=k _ c3 ((place_mo (m:=m) ht).mono (by omega)) (place_text ht.len) (pc3.le (by omega))
   rw [mdD_eq] at this
   exact this
  ·split
   ·have:=k _ c2 (zero_mo.mono (by omega)) (by decide +kernel) (pc2.le (by omega))
    rw [mdD_eq] at this
    exact this
   ·split
    ·refine ⟨p,c2,_,_,a,b,c,d,lv,rfl,lt0,updS_same,pc2,by omega,hlv,fun t c3 vt pc3 => ?_⟩
     one_sign
     exact k t c3 (vt.1.mo.mono (by omega)) (by have:=vt.2; omega) (pc3.le (by omega))
    ·refine ⟨p,c2,_,_,a,b,c,d,lv,rfl,lt0,updS_same,pc2,by omega,hlv,fun t c3 vt pc3 => ?_⟩
     one_sign
     have two:∃ z:Int,atI ([.int 3,.int 2]:List GD.D) (if 3 < (lv:Int) then 1 else 0) = some (.int z) ∧ 0 < z ∧ z ≤ 3:=by
      split
      ·exact ⟨2,rfl,by decide,by decide⟩
      ·exact ⟨3,rfl,by decide,by decide⟩
     obtain ⟨z,ez,z0,z3⟩:=two
     refine ⟨_,ez,p,c3,_,_,rfl,updS_same,pc3,z0,by omega,by omega,fun d3 c4 h5 h6 pc4 => ?_⟩
     one_sign
     refine ⟨by omega,by omega,?_⟩
     obtain ⟨w1,rfl⟩:=Int.eq_ofNat_of_zero_le h5
     have en1:(w1:Int).toNat = w1:=rfl
     rw [en1]
     have lr:(rngD 0 w1).length = w1:=by simp [rngD]
     let J:Nat → DS → Prop:=fun j δ => ∃ (ps:List Tm) (y:Sl) (c':Cell),δ = ⟨[.val (.ref p),.val (.lst [nms a,nms b,nms c,nms d]),.val (.int d1),.val (.int lv),.own (ps.map mdD),y],updS S p c'⟩ ∧ ps.length = j + 1 ∧ (∀ q ∈ ps,Vo 10 q) ∧ sumT ps ≤ 2000 + 100 * j ∧ PenC c' (n + 210 + 6 * j)
     refine for_inv J ⟨[t],.no,c4,rfl,rfl,by simpa using vt.1.mono (by omega),by have:=vt.2; simp [sumT]; omega,pc4.le (by omega)⟩ ?_ ?_
     ·rintro j _ _ hj ⟨ps,y,c5,rfl,lp,hp,sp,pc5⟩
      obtain ⟨hj',rfl⟩:=rng_at hj
      one_sign
      refine ⟨p,c5,_,_,rfl,updS_same,pc5,by omega,by simp; omega,by omega,fun d4 c6 h7 h8 pc6 => ?_⟩
      one_sign
      refine ⟨p,c6,_,_,a,b,c,d,rfl,lt0,updS_same,pc6,by omega,fun t2 u2 m2 c7 ht2 hu2 pc7 => ?_⟩
      have cok:=(col_vo (m:=m2) ht2 hu2).mono (show 2 ≤ 10 by omega)
      have clen:=col_text (m:=m2) ht2.len hu2.len
      one_sign
      refine ⟨h7,by simp at h8; omega,by simp; omega,ps.take d4.toNat ++ [.mk "column" u2 [.mk "row" t2 [] m2] false] ++ ps.drop d4.toNat,.val (.int (0 + (j:Int))),c7,?_,?_,?_,?_,pc7.le (by omega)⟩
      ·simp only [List.map_append,List.map_take,List.map_drop,List.map_cons,List.map_nil]
      ·simp; omega
      ·intro q hq
       simp only [List.mem_append,List.mem_singleton] at hq
       rcases hq with (hq | hq) | hq
       ·exact hp q (List.mem_of_mem_take hq)
       ·rw [hq]; exact cok
       ·exact hp q (List.mem_of_mem_drop hq)
      ·rw [sumT_ins]; omega
     ·rintro _ ⟨ps,y,c5,rfl,lp,hp,sp,pc5⟩
      rw [lr] at lp sp pc5
      one_sign
      refine ⟨_,rfl,p,c5,_,_,rfl,updS_same,pc5,by decide,by decide,by omega,fun d5 c6 h7 h8 pc6 => ?_⟩
      obtain ⟨x,hx,mx⟩:=str_at (l:=d) h7 (by rw [lt.ld]; exact h8)
      simp only [nms]
      one_sign
      refine ⟨x,hx,?_⟩
      have:=k (.mk "rule" x ps false) c6 (rule_mo (d:=10) (lt.hd x mx) (by omega) (by intro z; subst z; simp at lp) hp (by omega)) (by have:=app_text (k := "rule") (n:=x) (ps:=ps) (.inr rfl) (lt.hd x mx).len (by omega); omega) (pc6.le (by omega))
      rw [mdD_eq] at this
      exact this
end
end
section
def phText (d:Nat):Ph:=fun args S Kt => ∃ t,args = [.val (mdD t)] ∧ MdOk d t ∧ Kt (.str t.text) S
section
variable {P:Program} {w:World} {K:PySem.W.Frag} {mg:Str → Option Value} {base:Heap} {C aW:Addr}
theorem dead {k:Nat} {x:Str} {st:Stmt} {N ps:List Str} {Φ:Ph} (Df:Dfn K mg x st) (S:FnScope N ps (defScope st))
  (hb:∀ (kV doc pm:Value) (an:Option Addr) (cdv ct:Value) (us:List Value),us.length = ps.length → bindArgs (PySem.W.fnOf x x (defArgs st) (defBody st) (defScope st) .none kV doc pm an cdv ct) ⟨us,[]⟩ = pure (ps.zip us)) (no:∀ args S Kt,¬ Φ args S Kt):Cal P w K mg base (k + 1) x (spD K Φ) :=
 dcal Df S hb (fun args S Kt h => (no _ _ _ h).elim) fun f cdv A outer s H E hr => ⟨dNever,s_nevers,fun args S Kt h => (no _ _ _ h).elim⟩
theorem cText (Df:Dfn K mg "_law_text" s_law_text) (T:Txt K mg C aW):∀ d,Cal P w K mg base (d + 1) "_law_text" (spD K (phText d))
 | 0 => dead Df sc_law_text (fun _ _ _ _ _ _ us hl => match us,hl with | [_],_ => rfl) fun args S Kt ⟨t,_,h,_⟩ => h
 | d + 1 => by
  have cText:=cText Df T d
  refine dcal Df sc_law_text (fun _ _ _ _ _ _ us hl => match us,hl with | [_],_ => rfl) (fun args S Kt h => by obtain ⟨t,rfl,_⟩:=h; rfl) (fun f cdv A outer s H E hr => ⟨_,(s_cons (s_asg (d_v (pv 0)) (g_tup (n:=4) rfl (gs_cons (g_name (pg_name (i:=1) sc_law_text.nd rfl (Or.inl rfl))) (gs_cons (g_name (pg_name (i:=2) sc_law_text.nd rfl (Or.inl rfl))) (gs_cons (g_name (pg_name (i:=3) sc_law_text.nd rfl (Or.inl rfl))) (gs_cons (g_name (pg_name (i:=4) sc_law_text.nd rfl (Or.inl rfl))) gs_nil))))))
   (s_cons (s_setLc (i:=5) (own:=[("_law_part",6)]) (by rfl) sc_law_text.nd rfl rfl (sw_true rfl rfl rfl (by decide +kernel)) (i_b (b_s (pv 3))) (blkOk_by (own:=[("_law_part",6)]) (N:=N_law_text) (sc:=defScope s_law_text) (by decide +kernel)) (fun _ _ _ _ _ => g_name (pg_name (i:=6) sc_law_text.nd rfl (Or.inl rfl))) (fun _ _ _ _ _ => ts_nil) (fun _ _ _ _ _ => d_call cText hr (by one_item) (by rfl) (a_v (d_v (pv 6)) a_nil)) (by simp))
   (s_cons (s_if (dt_cmp op_eq l_eq (d_v (pv 1)) d_str (nomark _)) (s_one (s_ret (d_cat (d_v (pv 2)) (d_mulS d_str (d_toInt (by rfl) T.n_int (d_v (pv 4))))))) s_nil)
   (s_cons (s_if (dt_cmp op_eq l_eq (d_v (pv 1)) d_str (nomark _)) (s_one (s_ret (d_cat (d_cat (d_ix (d_v (pv 5)) d_int (fun _ _ => rfl)) d_str) (d_v (pv 2))))) s_nil)
   (s_cons (s_if (dt_cmp op_eq l_eq (d_v (pv 1)) d_str (nomark _)) (s_one (s_ret (d_cat d_str (d_ix (d_v (pv 5)) d_int (fun _ _ => rfl))))) s_nil)
   (s_cons (s_if (dt_cmp op_eq l_eq (d_v (pv 1)) d_str (nomark _)) (s_one (s_ret d_str)) s_nil)
   (s_cons (s_if (dt_cmp op_eq l_eq (d_v (pv 1)) d_str (nomark _)) (s_one (s_ret (d_cat (d_cat (d_cat (d_v (pv 2)) d_str) (d_join d_str (s_s (pv 5)))) d_str))) s_nil)
   (s_one (s_ret (d_cat (d_cat (d_cat (d_v (pv 2)) d_str) (d_join d_str (s_s (pv 5)))) d_str)))))))))),fun args S Kt h => ?_⟩)
  obtain ⟨t,rfl,ok,k⟩:=h
  obtain ⟨kd,nm,ps,m⟩:=t
  obtain ⟨o1,o2,o3,o4,o5⟩:=ok
  rw [mdD_eq]
  one_sign
  have pl:∀ q ∈ ps,q.text.length ≤ 20000:=fun q hq => (o4 q hq).len
  refine lc_map ps mdD (fun t => .str t.text) rfl rfl (fun i q hi => ?_) ?_
  ·one_sign
   refine ⟨q,rfl,o4 q (List.mem_of_getElem? hi),step1 hi (Nat.le_trans o3 (by decide)) rfl rfl rfl⟩
  ·have e5:ps.map (fun t => GD.D.str t.text) = (ps.map Tm.text).map GD.D.str:=by simp [Function.comp_def]
   rw [e5]
   have l:=lits
   have j1:=join_len ", " (ps.map Tm.text)
   have j2:=sum_leN 20000 (ps.map Tm.text) (by simpa using pl)
   rw [List.length_map] at j1 j2
   rw [l.2.2.2.2.2.2.2.1] at j1
   have hd:ps ≠ [] → ∃ a,atI ps 0 = some a ∧ (ps.map Tm.text).headD "" = a.text ∧ a.text.length ≤ 20000:=fun h => by
    cases ps with
    | nil => exact absurd rfl h
    | cons q r => exact ⟨q,atI_nat (j:=0) rfl,rfl,pl q (List.mem_cons_self ..)⟩
   have ne:kd = "column" ∨ kd = "place" → ps ≠ []:=fun z y => by
    rcases o5 with ⟨h,_⟩ | ⟨_,_,_,_,h,_⟩ | ⟨_,_,_,_,_,h,_⟩ | ⟨h,_⟩ | ⟨_,_,h⟩
    ·subst h; exact absurd z (by decide)
    ·subst h; cases y
    ·subst h; cases y
    ·subst h; exact absurd z (by decide)
    ·exact h y
   rw [Tm.text,texts_map] at k
   unfold wr at k
   one_sign
   split
   ·rename_i h
    rw [if_pos h] at k
    cases m with
    | true =>
     have e1:Txt.mul "'" 1 = "'" := by decide +kernel
     simp only [if_true] at k ⊢
     rw [e1]
     exact ⟨PyProof.Rows.mulOk_of 1 1 (by rw [l.1]; omega) (by omega) (by omega) (by decide) (by decide),by omega,k⟩
    | false =>
     have e1:Txt.mul "'" 0 = "" := by decide +kernel
     have e2:nm ++ ("" : Str) = nm:=ext_tl (by rw [tl_append]; exact List.append_nil _)
     simp only [Bool.false_eq_true,if_false] at k ⊢
     rw [e1,e2]
     exact ⟨PyProof.Rows.mulOk_of 1 1 (by rw [l.1]; omega) (by omega) (by omega) (by decide) (by decide),by rw [l.2.2.2.2.2.2.2.2.2]; omega,k⟩
   ·rename_i h1
    rw [if_neg h1] at k
    split
    ·rename_i h
     rw [if_pos h] at k
     obtain ⟨a,e1,e2,e3⟩:=hd (ne (.inl h))
     rw [e2] at k
     exact ⟨a,e1,by omega,by rw [lenA]; omega,k⟩
    ·rename_i h2
     rw [if_neg h2] at k
     split
     ·rename_i h
      rw [if_pos h] at k
      obtain ⟨a,e1,e2,e3⟩:=hd (ne (.inr h))
      rw [e2] at k
      exact ⟨a,e1,by omega,k⟩
     ·rename_i h3
      rw [if_neg h3] at k
      split
      ·rename_i h; rw [if_pos h] at k; exact k
      ·rename_i h4
       rw [if_neg h4] at k
       split
       ·rename_i h
        rw [if_pos h] at k
        exact ⟨by omega,by rw [List.length_map,l.2.2.2.2.2.2.2.1]; omega,by rw [lenA]; omega,by rw [lenA,lenA]; omega,k⟩
       ·rename_i h
        rw [if_neg h] at k
        exact ⟨by omega,by rw [List.length_map,l.2.2.2.2.2.2.2.1]; omega,by rw [lenA]; omega,by rw [lenA,lenA]; omega,k⟩
def phApplied (C:Addr):Ph:=fun args S Kt => ∃ (k n:Str) (ts:List Tm),args = [.val (.str k),.val (.str n),.val (.lst (ts.map (tmD C)))] ∧ (k = "function" ∨ k = "rule") ∧ Short (ts.map Tm.text) n ∧ 1 ≤ ts.length ∧ ts.length ≤ 3 ∧ Kt (tmD C (.mk k n ts false)) S
theorem cApplied (Df:Dfn K mg "_law_applied" s_law_applied) (T:Txt K mg C aW) (cFun:CalR P w K mg base 4 "function_term" (spStar 1 (spD K (phApp C "function")))) (cRule:CalR P w K mg base 4 "rule_term" (spStar 1 (spD K (phApp C "rule")))):Cal P w K mg base 5 "_law_applied" (spD K (phApplied C)):=by
 refine dcal Df sc_law_applied (fun _ _ _ _ _ _ us hl => match us,hl with | [_,_,_],_ => rfl) (fun args S Kt h => by obtain ⟨k,n,ts,rfl,_⟩:=h; rfl) (fun f cdv A outer s H E hr => ⟨_,(s_cons (s_if (dt_cmp op_eq l_eq (d_v (pv 0)) d_str (nomark _)) (s_cons (s_if (dt_cmp op_eq l_eq (d_len (by rfl) T.n_len (s_s (pv 2))) d_int (nomark _)) (s_one (s_ret (d_callR cRule hr (by one_item) (by rfl) (a_v (d_v (pv 1)) (a_v (d_ix (d_v (pv 2)) d_int (fun _ _ => rfl)) a_nil))))) s_nil)
   (s_cons (s_if (dt_cmp op_eq l_eq (d_len (by rfl) T.n_len (s_s (pv 2))) d_int (nomark _)) (s_one (s_ret (d_callR cRule hr (by one_item) (by rfl) (a_v (d_v (pv 1)) (a_v (d_ix (d_v (pv 2)) d_int (fun _ _ => rfl)) (a_v (d_ix (d_v (pv 2)) d_int (fun _ _ => rfl)) a_nil)))))) s_nil)
   (s_one (s_ret (d_callR cRule hr (by one_item) (by rfl) (a_v (d_v (pv 1)) (a_v (d_ix (d_v (pv 2)) d_int (fun _ _ => rfl)) (a_v (d_ix (d_v (pv 2)) d_int (fun _ _ => rfl)) (a_v (d_ix (d_v (pv 2)) d_int (fun _ _ => rfl)) a_nil))))))))) s_nil)
   (s_cons (s_if (dt_cmp op_eq l_eq (d_len (by rfl) T.n_len (s_s (pv 2))) d_int (nomark _)) (s_one (s_ret (d_callR cFun hr (by one_item) (by rfl) (a_v (d_v (pv 1)) (a_v (d_ix (d_v (pv 2)) d_int (fun _ _ => rfl)) a_nil))))) s_nil)
   (s_cons (s_if (dt_cmp op_eq l_eq (d_len (by rfl) T.n_len (s_s (pv 2))) d_int (nomark _)) (s_one (s_ret (d_callR cFun hr (by one_item) (by rfl) (a_v (d_v (pv 1)) (a_v (d_ix (d_v (pv 2)) d_int (fun _ _ => rfl)) (a_v (d_ix (d_v (pv 2)) d_int (fun _ _ => rfl)) a_nil)))))) s_nil)
   (s_one (s_ret (d_callR cFun hr (by one_item) (by rfl) (a_v (d_v (pv 1)) (a_v (d_ix (d_v (pv 2)) d_int (fun _ _ => rfl)) (a_v (d_ix (d_v (pv 2)) d_int (fun _ _ => rfl)) (a_v (d_ix (d_v (pv 2)) d_int (fun _ _ => rfl)) a_nil)))))))))),fun args S Kt h => ?_⟩)
 obtain ⟨k,n,ts,rfl,hk,sh,l1,l3,q⟩:=h
 have nf:¬ (("function" : Str) = "rule"):=by decide
 match ts,l1,l3,sh,q with
 | [a],_,_,sh,q =>
  rcases hk with rfl | rfl
  ·simp? only [nf]
   exact ⟨_,rfl,n,[a],rfl,sh,q⟩
  ·one_sign
   exact ⟨_,rfl,n,[a],rfl,sh,q⟩
 | [a,b],_,_,sh,q =>
  rcases hk with rfl | rfl
  ·simp? only [nf]
   exact ⟨_,rfl,_,rfl,n,[a,b],rfl,sh,q⟩
  ·one_sign
   exact ⟨_,rfl,_,rfl,n,[a,b],rfl,sh,q⟩
 | [a,b,c],_,_,sh,q =>
  rcases hk with rfl | rfl
  ·simp? only [nf]
   exact ⟨_,rfl,_,rfl,_,rfl,n,[a,b,c],rfl,sh,q⟩
  ·one_sign
   exact ⟨_,rfl,_,rfl,_,rfl,n,[a,b,c],rfl,sh,q⟩
theorem tm_kind (S:Sto) (k n:Str) (ts:List Tm) (m:Bool):fld S C "kind" (tmD C (.mk k n ts m)) = some (.str k):=by rw [tmD_eq,fld_obj]; rfl
theorem tm_name (S:Sto) (k n:Str) (ts:List Tm) (m:Bool):fld S C "name" (tmD C (.mk k n ts m)) = some (.str n):=by rw [tmD_eq,fld_obj]; rfl
theorem tm_parts (S:Sto) (k n:Str) (ts:List Tm) (m:Bool):fld S C "parts" (tmD C (.mk k n ts m)) = some (.lst (ts.map (tmD C))):=by rw [tmD_eq,fld_obj]; rfl
theorem tm_marked (S:Sto) (k n:Str) (ts:List Tm) (m:Bool):fld S C "marked" (tmD C (.mk k n ts m)) = some (.bl m):=by rw [tmD_eq,fld_obj]; rfl
theorem kb_l:kitB "list" "list" = some true:=by decide
theorem kb_b:kitB "bool" "bool" = some true:=by decide
theorem kb_s:kitB "str" "str" = some true:=by decide
theorem kinds {k n:Str} {ps:List Tm} {m:Bool} (h:KindOk k n ps m):(k = "column" ∨ k = "place" → ps ≠ []) ∧ (decide (k = "row") && m) = m:=by
 rcases h with ⟨rfl,rfl⟩ | ⟨rfl,rfl,t,mm,rfl,_⟩ | ⟨rfl,rfl,rfl,t,mm,rfl,_⟩ | ⟨rfl,rfl,rfl,rfl⟩ | ⟨hk,rfl,h⟩
 ·exact ⟨fun z => absurd z (by decide),by simp⟩
 ·exact ⟨fun _ => by simp,by simp⟩
 ·exact ⟨fun _ => by simp,by simp⟩
 ·exact ⟨fun z => absurd z (by decide),by simp⟩
 ·exact ⟨fun _ => h,by simp⟩
theorem MdOk.short {d:Nat} {k n:Str} {ps:List Tm} {m:Bool} (h:MdOk (d + 1) (.mk k n ps m)):Short (ps.map Tm.text) n:=by
 obtain ⟨o1,o2,o3,o4,o5⟩:=h
 refine ⟨by omega,by simp; omega,fun x hx => ?_⟩
 obtain ⟨q,hq,rfl⟩:=List.mem_map.mp hx
 have:=(o4 q hq).len
 omega
def phBuilt (C:Addr) (d:Nat):Ph:=fun args S Kt => ∃ t,args = [.val (mdD t)] ∧ MdOk d t ∧ Kt (tmD C t) S
theorem cBuilt (Df:Dfn K mg "_law_built" s_law_built) (T:Txt K mg C aW) (cZero:Cal P w K mg base 4 "zero_term" (spD K (phZero C))) (rt2:RowK P w K mg base C 2 [] [.p 0,.p 1])
  (pt2:CalN P w K mg base 5 "place_term" 2 [] (fun vs zs => arr [.p 0,.p 1] vs [.bl false] zs) (spD K (phPlace C))) (ct3:CalN P w K mg base 5 "column_term" 3 [] (fun vs zs => arr [.p 0,.p 1,.p 2] vs [.bl false] zs) (spD K (phCol C)))
  (cApplied:Cal P w K mg base 5 "_law_applied" (spD K (phApplied C))):∀ d,Cal P w K mg base (d + 6) "_law_built" (spD K (phBuilt C d))
 | 0 => dead Df sc_law_built (fun _ _ _ _ _ _ us hl => match us,hl with | [_],_ => rfl) fun args S Kt ⟨t,_,h,_⟩ => h
 | d + 1 => by
  have cBuilt:=cBuilt Df T cZero rt2 pt2 ct3 cApplied d
  refine dcal Df sc_law_built (fun _ _ _ _ _ _ us hl => match us,hl with | [_],_ => rfl) (fun args S Kt h => by obtain ⟨t,rfl,_⟩:=h; rfl) (fun f cdv A outer s H E hr => ⟨_,(s_cons (s_asg (d_v (pv 0)) (g_tup (n:=4) rfl (gs_cons (g_name (pg_name (i:=1) sc_law_built.nd rfl (Or.inl rfl))) (gs_cons (g_name (pg_name (i:=2) sc_law_built.nd rfl (Or.inl rfl))) (gs_cons (g_name (pg_name (i:=3) sc_law_built.nd rfl (Or.inl rfl))) (gs_cons (g_name (pg_name (i:=4) sc_law_built.nd rfl (Or.inl rfl))) gs_nil))))))
   (s_cons (s_if (dt_cmp op_eq l_eq (d_v (pv 1)) d_str (nomark _)) (s_one (s_ret (d_call0 cZero hr (by one_item) (by rfl)))) s_nil)
   (s_cons (s_if (dt_cmp op_eq l_eq (d_v (pv 1)) d_str (nomark _)) (s_one (s_ret (d_callN rt2 (fun _ _ => .cons (.bl false) .nil) hr (by one_item) (by rfl) (a_v (d_v (pv 2)) (a_v (d_v (pv 4)) a_nil)) k_nil))) s_nil)
   (s_cons (s_if (dt_cmp op_eq l_eq (d_v (pv 1)) d_str (nomark _)) (s_one (s_ret (d_callN pt2 (fun _ _ => .cons (.bl false) .nil) hr (by one_item) (by rfl) (a_v (d_ix (d_ix (d_v (pv 3)) d_int (fun _ _ => rfl)) d_int (fun _ _ => rfl)) (a_v (d_ix (d_ix (d_v (pv 3)) d_int (fun _ _ => rfl)) d_int (fun _ _ => rfl)) a_nil)) k_nil))) s_nil)
   (s_cons (s_if (dt_cmp op_eq l_eq (d_v (pv 1)) d_str (nomark _)) (s_one (s_ret (d_callN ct3 (fun _ _ => .cons (.bl false) .nil) hr (by one_item) (by rfl) (a_v (d_ix (d_ix (d_v (pv 3)) d_int (fun _ _ => rfl)) d_int (fun _ _ => rfl)) (a_v (d_v (pv 2)) (a_v (d_ix (d_ix (d_v (pv 3)) d_int (fun _ _ => rfl)) d_int (fun _ _ => rfl)) a_nil))) k_nil))) s_nil)
   (s_one (s_ret (d_call cApplied hr (by one_item) (by rfl) (a_v (d_v (pv 1)) (a_v (d_v (pv 2)) (a_v (d_n (n_lc (own:=[("_law_part",5)]) (by rfl) sc_law_built.nd (i_b (b_s (pv 3))) (blkOk_by (own:=[("_law_part",5)]) (N:=N_law_built) (sc:=defScope s_law_built) (by decide +kernel)) (fun _ _ _ _ _ => g_name (pg_name (i:=5) sc_law_built.nd rfl (Or.inl rfl))) (fun _ _ _ _ _ => ts_nil) (fun _ _ _ _ _ => d_call cBuilt hr (by one_item) (by rfl) (a_v (d_v (pv 5)) a_nil)) (by simp))) a_nil))))))))))),fun args S Kt h => ?_⟩)
  obtain ⟨t,rfl,ok,k⟩:=h
  obtain ⟨kd,nm,ps,m⟩:=t
  have sh:=ok.short
  obtain ⟨o1,o2,o3,o4,o5⟩:=ok
  rw [mdD_eq]
  have n1:¬ (("row" : Str) = "zero"):=by decide
  have n2:¬ (("column" : Str) = "zero") ∧ ¬ (("column" : Str) = "row") ∧ ¬ (("column" : Str) = "place"):=by decide
  have n3:¬ (("place" : Str) = "zero") ∧ ¬ (("place" : Str) = "row"):=by decide
  rcases o5 with ⟨rfl,rfl⟩ | ⟨rfl,rfl,t,mm,rfl,ht⟩ | ⟨rfl,rfl,rfl,t,mm,rfl,ht⟩ | ⟨rfl,rfl,rfl,rfl⟩ | ⟨hk,rfl,hp⟩
  ·simp? only [n1]
   exact ⟨nm,m,rfl,by omega,k⟩
  ·simp? only [n2,mdD_eq]
   refine ⟨_,rfl,?_⟩
   one_sign
   refine ⟨_,rfl,_,rfl,?_⟩
   one_sign
   exact ⟨_,rfl,t,nm,mm,rfl,by omega,by omega,k⟩
  ·simp? only [n3,mdD_eq]
   refine ⟨_,rfl,?_⟩
   one_sign
   refine ⟨_,rfl,_,rfl,?_⟩
   one_sign
   exact ⟨_,rfl,t,mm,rfl,by omega,k⟩
  ·one_sign
   exact ⟨rfl,k⟩
  ·have nk:¬ (kd = "zero") ∧ ¬ (kd = "row") ∧ ¬ (kd = "place") ∧ ¬ (kd = "column"):=by rcases hk with rfl | rfl <;> decide
   simp? only [nk]
   refine lc_map ps mdD (tmD C) rfl rfl (fun i q hi => ?_) ?_
   ·one_sign
    exact ⟨q,rfl,o4 q (List.mem_of_getElem? hi),step1 hi (Nat.le_trans o3 (by decide)) rfl rfl rfl⟩
   ·one_sign
    exact ⟨kd,nm,ps,rfl,hk,sh,List.length_pos_iff.mpr hp,o3,k⟩
theorem zip2_map {α:Type} (f g:α → GD.D) (l:List α):zipN [l.map f,l.map g] (minLen [l.map f,l.map g]) = l.map fun t => .tup [f t,g t]:=by
 have:minLen [l.map f,l.map g] = l.length:=by simp [minLen]
 rw [this]
 refine List.ext_getElem (by simp [zipN]) fun i h1 h2 => ?_
 have h3:i < l.length:=by simpa [zipN] using h1
 simp [zipN,h3]
def phIs (C:Addr) (d:Nat):Ph:=fun args S Kt => ∃ t,args = [.val (tmD C t),.val (mdD t)] ∧ MdOk d t ∧ Kt (.bl true) S
theorem cIs (Df:Dfn K mg "_law_is" s_law_is) (T:Txt K mg C aW) (F:TrmF K C) (cTextA:∀ d,Cal P w K mg base (d + 1) "_law_text" (spD K (phText d))) (mStr:Met P w K mg base 1 C "__str__" (spD K (phStr C))):∀ d,Cal P w K mg base (d + 4) "_law_is" (spD K (phIs C d))
 | 0 => dead Df sc_law_is (fun _ _ _ _ _ _ us hl => match us,hl with | [_,_],_ => rfl) fun args S Kt ⟨t,_,h,_⟩ => h
 | d + 1 => by
  have cIs:=cIs Df T F cTextA mStr d
  have cText:=cTextA (d + 1)
  refine dcal Df sc_law_is (fun _ _ _ _ _ _ us hl => match us,hl with | [_,_],_ => rfl) (fun args S Kt h => by obtain ⟨t,rfl,_⟩:=h; rfl) (fun f cdv A outer s H E hr => ⟨_,(s_cons (s_asg (d_v (pv 1)) (g_tup (n:=4) rfl (gs_cons (g_name (pg_name (i:=2) sc_law_is.nd rfl (Or.inl rfl))) (gs_cons (g_name (pg_name (i:=3) sc_law_is.nd rfl (Or.inl rfl))) (gs_cons (g_name (pg_name (i:=4) sc_law_is.nd rfl (Or.inl rfl))) (gs_cons (g_name (pg_name (i:=5) sc_law_is.nd rfl (Or.inl rfl))) gs_nil))))))
   (s_cons (s_if (dt_w (dw_or (dt_not (dt_val (d_isO F.oc (by rfl) T.n_isinstance (d_v (pv 0)) (pe_glob (v := .ref _) rfl T.k_Term rfl)))) (dw_or (dt_cmp op_ne l_ne (d_fld F.a_kind (d_v (pv 0))) (d_v (pv 2)) (nomark _)) (dw_or (dt_cmp op_ne l_ne (d_fld F.a_name (d_v (pv 0))) (d_v (pv 3)) (nomark _)) (dw_or1 (dt_not (dt_val (d_isB (by rfl) T.n_isinstance (d_fld F.a_parts (d_v (pv 0))) (pe_bltn (v := .ty "list") (u := .type "list") rfl T.n_list (by decide +kernel) rfl))))))))) (s_one (s_ret d_bl)) s_nil)
   (s_cons (s_if (dt_w (dw_or (dt_not (dt_val (d_isB (by rfl) T.n_isinstance (d_fld F.a_marked (d_v (pv 0))) (pe_bltn (v := .ty "bool") (u := .type "bool") rfl T.n_bool (by decide +kernel) rfl)))) (dw_or (dt_cmp op_ne l_ne (d_fld F.a_marked (d_v (pv 0))) (d_v (pv 5)) (nomark _)) (dw_or1 (dt_cmp op_ne l_ne (d_len (by rfl) T.n_len (s_d (d_fld F.a_parts (d_v (pv 0))))) (d_len (by rfl) T.n_len (s_s (pv 4))) (nomark _)))))) (s_one (s_ret d_bl)) s_nil)
   (s_cons (s_if (dt_w (dw_or (dt_not (dt_val (d_isB (by rfl) T.n_isinstance (d_fld F.a_text (d_v (pv 0))) (pe_bltn (v := .ty "str") (u := .type "str") rfl T.n_str (by decide +kernel) rfl)))) (dw_or (dt_cmp op_ne l_ne (d_fld F.a_text (d_v (pv 0))) (d_call cText hr (by one_item) (by rfl) (a_v (d_v (pv 1)) a_nil)) (nomark _)) (dw_or1 (dt_cmp op_ne l_ne (d_strO mStr hr (by one_item) (by rfl) T.n_str (d_v (pv 0))) (d_fld F.a_text (d_v (pv 0))) (nomark _)))))) (s_one (s_ret d_bl)) s_nil)
   (s_one (s_ret (d_all rfl (by rfl) T.n_all (l_n (n_lc (own:=[("_law_part",6),("_law_inner",7)]) (by rfl) sc_law_is.nd (i_zip2 (by rfl) T.n_zip (a_v (d_fld F.a_parts (d_v (pv 0))) (a_s (pv 4) a_nil))) (blkOk_by (own:=[("_law_part",6),("_law_inner",7)]) (N:=N_law_is) (sc:=defScope s_law_is) (by decide +kernel)) (fun _ _ _ _ _ => g_tup (n:=2) rfl (gs_cons (g_name (pg_name (i:=6) sc_law_is.nd rfl (Or.inl rfl))) (gs_cons (g_name (pg_name (i:=7) sc_law_is.nd rfl (Or.inl rfl))) gs_nil))) (fun _ _ _ _ _ => ts_nil) (fun _ _ _ _ _ => d_call cIs hr (by one_item) (by rfl) (a_v (d_v (pv 6)) (a_v (d_v (pv 7)) a_nil))) (by simp)))))))))),fun args S Kt h => ?_⟩)
  obtain ⟨t,rfl,ok,k⟩:=h
  obtain ⟨kd,nm,ps,m⟩:=t
  have ok0:=ok
  obtain ⟨o1,o2,o3,o4,o5⟩:=ok
  obtain ⟨fs,e,e2⟩:=tmD_fs (C:=C) S (.mk kd nm ps m)
  rw [mdD_eq]
  simp? only [tm_kind,tm_name,tm_parts,tm_marked,tmD_text,tyO_o (tmD_ty (.mk kd nm ps m)) e,kb_l,kb_b,kb_s]
  refine ⟨true,F.kSelf,?_⟩
  simp only [List.length_map,not_true,if_false,Bool.true_eq_false]
  refine ⟨.mk kd nm ps m,by rw [mdD_eq],ok0,?_⟩
  one_sign
  refine ⟨⟨fs,e⟩,.mk kd nm ps m,rfl,?_⟩
  one_sign
  simp only [not_true,if_false]
  rw [zip2_map]
  refine lc_map ps (fun t => .tup [tmD C t,mdD t]) (fun _ => .bl true) rfl rfl (fun i q hi => ?_) ?_
  ·one_sign
   exact ⟨q,rfl,o4 q (List.mem_of_getElem? hi),step1 hi (Nat.le_trans o3 (by decide)) rfl rfl rfl⟩
  ·refine ⟨ps.map fun _ => true,by simp [Function.comp_def],?_⟩
   have:((ps.map fun _ => true).all fun b => b) = true:=by simp
   rw [this]
   exact k
end
end
section
mutual
def allT:Tm → List Tm
 | .mk k n ps m => allTs ps ++ [.mk k n ps m]
def allTs:List Tm → List Tm
 | [] => []
 | t :: ts => allT t ++ allTs ts
end
def add1T (o:List Tm) (t:Tm):List Tm:=if o.any (fun u => decide (u.text = t.text)) then o else o ++ [t]
def once (l:List Tm):List Tm:=l.foldl add1T []
theorem once_len (l:List Tm):(once l).length ≤ l.length:=by
 have:∀ (l o:List Tm),(l.foldl add1T o).length ≤ o.length + l.length:=by
  intro l
  induction l with
  | nil => intro o; simp
  | cons t ts ih =>
   intro o
   refine Nat.le_trans (ih _) ?_
   unfold add1T
   split <;> simp <;> omega
 unfold once
 simpa using this l []
def addT (o l:List Tm):List Tm:=l.foldl add1T o
mutual
def subT:Tm → List Tm
 | .mk k n ps m => (subTs ps).foldl addT [] ++ [.mk k n ps m]
def subTs:List Tm → List (List Tm)
 | [] => []
 | t :: ts => subT t :: subTs ts
end
theorem mem_add1 {o:List Tm} {t:Tm} (x:Str):((add1T o t).any fun u => decide (u.text = x)) = (o.any (fun u => decide (u.text = x)) || decide (t.text = x)):=by
 unfold add1T
 split
 ·rename_i h
  by_cases e:t.text = x
  ·subst e
   rw [h]; simp
  ·simp [e]
 ·simp
theorem any_addT (x:Str):∀ (l o:List Tm),((addT o l).any fun u => decide (u.text = x)) = (o.any (fun u => decide (u.text = x)) || l.any fun u => decide (u.text = x))
 | [],o => by simp [addT]
 | t :: ts,o => by
  show ((addT (add1T o t) ts).any _) = _
  rw [any_addT x ts,mem_add1,List.any_cons,Bool.or_assoc]
theorem addT_fold:∀ (l acc o:List Tm),addT o (l.foldl add1T acc) = addT (addT o acc) l
 | [],_,_ => rfl
 | t :: ts,acc,o => by
  show addT o (ts.foldl add1T (add1T acc t)) = addT (add1T (addT o acc) t) ts
  rw [addT_fold ts]
  congr 1
  cases h:acc.any fun u => decide (u.text = t.text) with
  | true =>
   have e1:add1T acc t = acc:=by unfold add1T; rw [h]; rfl
   have h2:((addT o acc).any fun u => decide (u.text = t.text)) = true:=by rw [any_addT,h,Bool.or_true]
   have e2:add1T (addT o acc) t = addT o acc:=by unfold add1T; rw [h2]; rfl
   rw [e1,e2]
  | false =>
   have e1:add1T acc t = acc ++ [t]:=by unfold add1T; rw [h]; rfl
   rw [e1]
   unfold addT
   rw [List.foldl_append]; rfl
theorem addT_once (o l:List Tm):addT o (once l) = addT o l:=addT_fold l [] o
mutual
def LenT:Tm → Prop
 | .mk k n ps m => (∀ p ∈ ps,p.text.length < (Tm.text (.mk k n ps m)).length) ∧ LenTs ps
def LenTs:List Tm → Prop
 | [] => True
 | t :: ts => LenT t ∧ LenTs ts
end
mutual
theorem all_len:∀ {t:Tm},LenT t → ∀ u ∈ allT t,u.text.length ≤ t.text.length
 | .mk k n ps m,h,u,hu => by
  rw [LenT] at h
  rw [allT] at hu
  rcases List.mem_append.mp hu with hu | hu
  ·obtain ⟨p,hp,hl⟩:=alls_len h.2 u hu
   exact Nat.le_trans hl (Nat.le_of_lt (h.1 p hp))
  ·rw [List.mem_singleton.mp hu]; exact Nat.le_refl _
theorem alls_len:∀ {ts:List Tm},LenTs ts → ∀ u ∈ allTs ts,∃ p ∈ ts,u.text.length ≤ p.text.length
 | [],_,u,hu => by simp [allTs] at hu
 | t :: ts,h,u,hu => by
  rw [LenTs] at h
  rw [allTs] at hu
  rcases List.mem_append.mp hu with hu | hu
  ·exact ⟨t,.head _,all_len h.1 u hu⟩
  ·obtain ⟨p,hp,hl⟩:=alls_len h.2 u hu
   exact ⟨p,.tail _ hp,hl⟩
end
mutual
theorem sub_once:∀ {t:Tm},LenT t → subT t = once (allT t)
 | .mk k n ps m,h => by
  have h0:=h
  rw [LenT] at h
  have e1:(subTs ps).foldl addT [] = addT [] (allTs ps):=subs_once h.2 []
  rw [subT,e1,allT]
  show addT [] (allTs ps) ++ [_] = (allTs ps ++ [_]).foldl add1T []
  rw [List.foldl_append]
  show _ = add1T (addT [] (allTs ps)) _
  have z:((addT [] (allTs ps)).any fun u => decide (u.text = (Tm.mk k n ps m).text)) = false:=by
   rw [any_addT,List.any_nil,Bool.false_or,List.any_eq_false]
   intro u hu
   obtain ⟨p,hp,hl⟩:=alls_len h.2 u hu
   have:=h.1 p hp
   simp only [decide_eq_true_eq]
   intro e
   rw [e] at hl
   omega
  unfold add1T
  rw [z]; rfl
theorem subs_once:∀ {ts:List Tm},LenTs ts → ∀ o:List Tm,(subTs ts).foldl addT o = addT o (allTs ts)
 | [],_,_ => rfl
 | t :: ts,h,o => by
  rw [LenTs] at h
  rw [subTs,allTs]
  show (subTs ts).foldl addT (addT o (subT t)) = _
  rw [subs_once h.2,sub_once h.1,addT_once]
  unfold addT
  rw [List.foldl_append]
end
mutual
def txT (C:Addr):Tm → GG.Tx
 | .mk k n ps m => .mk (Tm.text (.mk k n ps m)) (tmD C (.mk k n ps m)) (txTs C ps)
def txTs (C:Addr):List Tm → List GG.Tx
 | [] => []
 | t :: ts => txT C t :: txTs C ts
end
theorem txT_txt (C:Addr):∀ t:Tm,(txT C t).txt = t.text
 | .mk _ _ _ _ => by rw [txT]; rfl
theorem txT_d (C:Addr):∀ t:Tm,(txT C t).d = tmD C t
 | .mk _ _ _ _ => by rw [txT]; rfl
theorem txTs_ds (C:Addr):∀ ts:List Tm,GG.Tx.ds (txTs C ts) = ts.map (tmD C)
 | [] => rfl
 | t :: ts => by rw [txTs,GG.Tx.ds,txT_d,txTs_ds C ts]; rfl
mutual
theorem txT_wf (C:Addr):∀ t:Tm,GG.WfT C (txT C t)
 | .mk k n ps m => by
  rw [txT,GG.WfT]
  refine ⟨⟨_,tmD_eq C k n ps m,?_,?_,?_⟩,txTs_wf C ps⟩
  ·rw [Tm.text,texts_map]; rfl
  ·rw [txTs_ds]; rfl
  ·rfl
theorem txTs_wf (C:Addr):∀ ts:List Tm,GG.WfTs C (txTs C ts)
 | [] => by rw [txTs,GG.WfTs]; trivial
 | t :: ts => by rw [txTs,GG.WfTs]; exact ⟨txT_wf C t,txTs_wf C ts⟩
end
theorem addX1_map (C:Addr) (o:List Tm) (t:Tm):GG.addX1 (o.map (txT C)) (txT C t) = (add1T o t).map (txT C):=by
 unfold GG.addX1 add1T
 have e:((o.map (txT C)).any fun u => decide (u.txt = (txT C t).txt)) = o.any fun u => decide (u.text = t.text):=by
  rw [List.any_map]
  congr 1
  funext u
  simp [txT_txt]
 rw [e]
 split
 ·rfl
 ·simp
theorem addX_map (C:Addr):∀ (l o:List Tm),GG.addX (o.map (txT C)) (l.map (txT C)) = (addT o l).map (txT C)
 | [],_ => rfl
 | t :: ts,o => by
  show GG.addX (GG.addX1 (o.map (txT C)) (txT C t)) (ts.map (txT C)) = (addT (add1T o t) ts).map (txT C)
  rw [addX1_map,addX_map C ts]
mutual
theorem subX_map (C:Addr):∀ t:Tm,GG.subX (txT C t) = (subT t).map (txT C)
 | .mk k n ps m => by
  have e:=subXs_map C ps []
  rw [txT,GG.subX,subT,List.map_append]
  rw [show (GG.subXs (txTs C ps)).foldl GG.addX [] = ((subTs ps).foldl addT []).map (txT C) from e]
  rw [List.map_cons,List.map_nil,txT]
theorem subXs_map (C:Addr):∀ (ts o:List Tm),(GG.subXs (txTs C ts)).foldl GG.addX (o.map (txT C)) = ((subTs ts).foldl addT o).map (txT C)
 | [],_ => by rw [txTs,GG.subXs]; rfl
 | t :: ts,o => by
  rw [txTs,GG.subXs,subTs]
  show (GG.subXs (txTs C ts)).foldl GG.addX (GG.addX (o.map (txT C)) (GG.subX (txT C t))) = ((subTs ts).foldl addT (addT o (subT t))).map (txT C)
  rw [subX_map C t,addX_map,subXs_map C ts]
end
theorem joinL_ge (S:List Nat):∀ l:List (List Nat),(l.map List.length).sum + l.length * S.length ≤ (TL.joinL S l).length + S.length
 | [] => by simp [TL.joinL]
 | [p] => by simp [TL.joinL]
 | p :: q :: r => by
  have ih:=joinL_ge S (q :: r)
  simp only [TL.joinL,List.length_append,List.map_cons,List.sum_cons,List.length_cons,Nat.add_mul,Nat.one_mul] at ih ⊢
  omega
theorem join_ge (y:Str) (ts:List Str):(ts.map (·.length)).sum + ts.length * y.length ≤ (Txt.join y ts).length + y.length:=by
 have h:=joinL_ge (TL.tl y) (ts.map TL.tl)
 rw [← TL.tl_join,← TL.join_eq,← TL.len_tl,← TL.len_tl,List.length_map,List.map_map] at h
 have e:(List.length ∘ TL.tl) = fun x:Str => x.length:=by funext x; exact (TL.len_tl x).symm
 rw [e] at h
 exact h
theorem mem_sum {l:List Tm} {p:Tm} (h:p ∈ l):p.text.length ≤ (l.map fun t => t.text.length).sum:=by
 induction l with
 | nil => cases h
 | cons t ts ih =>
  rw [List.map_cons,List.sum_cons]
  rcases List.mem_cons.mp h with rfl | h
  ·omega
  ·have:=ih h; omega
theorem text_ge {k n:Str} {ps:List Tm} {m:Bool} (h:KindOk k n ps m):(ps.map fun t => t.text.length).sum + ps.length ≤ (Tm.text (.mk k n ps m)).length ∧ ∀ p ∈ ps,p.text.length < (Tm.text (.mk k n ps m)).length:=by
 have l:=lits
 have app:∀ (a b c:Str),a.length = 1 → b.length = 1 → ps ≠ [] → (Tm.text (.mk k n ps m)) = n ++ a ++ Txt.join ", " (ps.map Tm.text) ++ b → (ps.map fun t => t.text.length).sum + ps.length ≤ (Tm.text (.mk k n ps m)).length ∧ ∀ p ∈ ps,p.text.length < (Tm.text (.mk k n ps m)).length:=by
  intro a b c ha hb hn e
  have j:=join_ge ", " (ps.map Tm.text)
  rw [List.length_map,List.map_map] at j
  have e2:(Str.length (", " : Str)) = 2:=l.2.2.2.2.2.2.2.1
  rw [e2] at j
  have e3:((fun x:Str => x.length) ∘ Tm.text) = fun t:Tm => t.text.length:=rfl
  rw [e3] at j
  have hp:0 < ps.length:=List.length_pos_iff.mpr hn
  have le:(Tm.text (.mk k n ps m)).length = n.length + 1 + (Txt.join ", " (ps.map Tm.text)).length + 1:=by rw [e,lenA,lenA,lenA,ha,hb]
  refine ⟨by omega,fun p hp' => ?_⟩
  have:=mem_sum hp'
  omega
 rcases h with ⟨rfl,rfl⟩ | ⟨rfl,rfl,t,mm,rfl,ht⟩ | ⟨rfl,rfl,rfl,t,mm,rfl,ht⟩ | ⟨rfl,rfl,rfl,rfl⟩ | ⟨hk,rfl,hn⟩
 ·simp
 ·have e:Tm.text (.mk "column" n [.mk "row" t [] mm] false) = Tm.text (.mk "row" t [] mm) ++ "." ++ n:=by rw [Tm.text,wr,if_neg (by decide),if_pos rfl]; rfl
  rw [e,lenA,lenA,l.2.1]
  simp; omega
 ·have e:Tm.text (.mk "place" "" [.mk "row" t [] mm] false) = "@" ++ Tm.text (.mk "row" t [] mm):=by rw [Tm.text,wr,if_neg (by decide),if_neg (by decide),if_pos rfl]; rfl
  rw [e,lenA,l.2.2.1]
  simp; omega
 ·simp
 ·rcases hk with rfl | rfl
  ·refine app "(" ")" "" l.2.2.2.1 l.2.2.2.2.1 hn ?_
   rw [Tm.text,wr,if_neg (by decide),if_neg (by decide),if_neg (by decide),if_neg (by decide),if_pos rfl,texts_map]
  ·refine app "[" "]" "" l.2.2.2.2.2.1 l.2.2.2.2.2.2.1 hn ?_
   rw [Tm.text,wr,if_neg (by decide),if_neg (by decide),if_neg (by decide),if_neg (by decide),if_neg (by decide),texts_map]
theorem LenTs.of:∀ {ts:List Tm},(∀ t ∈ ts,LenT t) → LenTs ts
 | [],_ => by rw [LenTs]; trivial
 | t :: ts,h => by rw [LenTs]; exact ⟨h t (.head _),LenTs.of fun u hu => h u (.tail _ hu)⟩
theorem md_len:∀ {d:Nat} {t:Tm},MdOk d t → LenT t
 | 0,_,h => h.elim
 | d + 1,.mk k n ps m,⟨_,_,_,h4,h5⟩ => by
  rw [LenT]
  exact ⟨(text_ge h5).2,LenTs.of fun p hp => md_len (h4 p hp)⟩
theorem alls_count:∀ {ts:List Tm},(∀ t ∈ ts,(allT t).length ≤ t.text.length + 1) → (allTs ts).length ≤ (ts.map fun t => t.text.length).sum + ts.length
 | [],_ => by simp [allTs]
 | t :: ts,h => by
  have h1:=h t (.head _)
  have h2:=alls_count fun u hu => h u (.tail _ hu)
  rw [allTs,List.length_append,List.map_cons,List.sum_cons,List.length_cons]
  omega
theorem md_count:∀ {d:Nat} {t:Tm},MdOk d t → (allT t).length ≤ t.text.length + 1
 | 0,_,h => h.elim
 | d + 1,.mk k n ps m,⟨_,_,_,h4,h5⟩ => by
  have h:=alls_count fun p hp => md_count (h4 p hp)
  have g:=(text_ge h5).1
  rw [allT,List.length_append,List.length_singleton]
  omega
theorem md_count' {d:Nat} {t:Tm} (h:MdOk d t):(allT t).length ≤ 30000:=by
 have h1:=md_count h
 have h2:=h.len
 omega
theorem hXs_le {C:Addr} {d:Nat}:∀ {ts:List Tm},(∀ t ∈ ts,GG.hX (txT C t) ≤ d) → GG.hXs (txTs C ts) ≤ d
 | [],_ => by rw [txTs,GG.hXs]; omega
 | t :: ts,h => by
  rw [txTs,GG.hXs]
  have h1:=h t (.head _)
  have h2:=hXs_le fun u hu => h u (.tail _ hu)
  omega
theorem md_h {C:Addr}:∀ {d:Nat} {t:Tm},MdOk d t → GG.hX (txT C t) ≤ d
 | 0,_,h => h.elim
 | d + 1,.mk k n ps m,⟨_,_,_,h4,h5⟩ => by
  rw [txT,GG.hX]
  have:=hXs_le (C:=C) (d:=d) fun p hp => md_h (h4 p hp)
  omega
theorem sub_len {C:Addr} {d:Nat} {t:Tm} (h:MdOk d t):(GG.subX (txT C t)).length ≤ 30000:=by
 rw [subX_map,List.length_map,sub_once (md_len h)]
 exact Nat.le_trans (once_len _) (md_count' h)
theorem SmlXs.of {C:Addr}:∀ {ts:List Tm},(∀ t ∈ ts,GG.SmlX (txT C t)) → GG.SmlXs (txTs C ts)
 | [],_ => by rw [txTs,GG.SmlXs]; trivial
 | t :: ts,h => by rw [txTs,GG.SmlXs]; exact ⟨h t (.head _),SmlXs.of fun u hu => h u (.tail _ hu)⟩
theorem md_sml {C:Addr}:∀ {d:Nat} {t:Tm},MdOk d t → GG.SmlX (txT C t)
 | 0,_,h => h.elim
 | d + 1,.mk k n ps m,h0 => by
  have l:=sub_len (C:=C) h0
  obtain ⟨_,_,_,h4,h5⟩:=h0
  rw [txT] at l ⊢
  rw [GG.SmlX]
  exact ⟨l,SmlXs.of fun p hp => md_sml (h4 p hp)⟩
mutual
theorem all_ok:∀ {d:Nat} {t:Tm},MdOk d t → ∀ u ∈ allT t,MdOk d u
 | 0,_,h,_,_ => h.elim
 | d + 1,.mk k n ps m,h,u,hu => by
  rw [allT] at hu
  rcases List.mem_append.mp hu with hu | hu
  ·exact (alls_ok (d:=d) (fun p hp => h.2.2.2.1 p hp) u hu).mono (by omega)
  ·rw [List.mem_singleton.mp hu]; exact h
theorem alls_ok:∀ {d:Nat} {ts:List Tm},(∀ t ∈ ts,MdOk d t) → ∀ u ∈ allTs ts,MdOk d u
 | _,[],_,u,hu => by simp [allTs] at hu
 | d,t :: ts,h,u,hu => by
  rw [allTs] at hu
  rcases List.mem_append.mp hu with hu | hu
  ·exact all_ok (h t (.head _)) u hu
  ·exact alls_ok (fun x hx => h x (.tail _ hx)) u hu
end
theorem once_mem {l:List Tm} {u:Tm} (h:u ∈ once l):u ∈ l:=by
 have:∀ (l o:List Tm),u ∈ l.foldl add1T o → u ∈ o ∨ u ∈ l:=by
  intro l
  induction l with
  | nil => exact fun o h => .inl h
  | cons t ts ih =>
   intro o h
   rcases ih _ h with h | h
   ·unfold add1T at h
    split at h
    ·exact .inl h
    ·rcases List.mem_append.mp h with h | h
     ·exact .inl h
     ·rw [List.mem_singleton.mp h]; exact .inr (.head _)
   ·exact .inr (.tail _ h)
 exact (this l [] h).elim (fun z => by simp at z) id
end
section
def leS (a b:Str):Prop:=¬ (tl b < tl a)
theorem leS_trans {a b c:Str} (h:leS a b) (g:leS b c):leS a c:=List.le_trans (α:=Nat) h g
theorem leS_anti {a b:Str} (h:leS a b) (g:leS b a):a = b:=ext_tl (List.le_antisymm (α:=Nat) h g)
theorem rising_all:∀ {l:List Str} {p:Str},PyProof.Rows.risingS p l = true → (p :: l).Pairwise leS
 | [],p,_ => List.pairwise_cons.mpr ⟨(fun _ h => by cases h),List.Pairwise.nil⟩
 | x :: l,p,h => by
  rw [PyProof.Rows.risingS,Bool.and_eq_true,Bool.not_eq_true',PyProof.Rows.ltCps_eq] at h
  have h1:leS p x:=of_decide_eq_false h.1
  have ih:=rising_all h.2
  refine List.pairwise_cons.mpr ⟨fun y hy => ?_,ih⟩
  rcases List.mem_cons.mp hy with rfl | hy
  ·exact h1
  ·exact leS_trans h1 ((List.pairwise_cons.mp ih).1 y hy)
theorem sorted_pw:∀ {l:List Str},PyProof.Rows.sortedS l = true → l.Pairwise leS
 | [],_ => List.Pairwise.nil
 | x :: l,h => rising_all h
theorem sorted_one:∀ {l m:List Str},l.Pairwise leS → m.Pairwise leS → l.Perm m → l = m
 | [],m,_,_,p => (List.Perm.eq_nil p.symm).symm
 | x :: l,[],_,_,p => absurd p.length_eq (by simp)
 | x :: l,y :: m,h,g,p => by
  obtain ⟨h1,h2⟩:=List.pairwise_cons.mp h
  obtain ⟨g1,g2⟩:=List.pairwise_cons.mp g
  have e:x = y:=by
   rcases List.mem_cons.mp (p.mem_iff.mp (List.mem_cons_self (a:=x) (l:=l))) with z | z
   ·exact z
   ·rcases List.mem_cons.mp (p.mem_iff.mpr (List.mem_cons_self (a:=y) (l:=m))) with w | w
    ·exact w.symm
    ·exact leS_anti (h1 y w) (g1 x z)
  subst e
  rw [sorted_one h2 g2 (List.perm_cons x |>.mp p)]
mutual
def sec:Tm → Tm
 | .mk k n ps m => if k = "row" then .mk "row" n [] true else .mk k n (secs ps) false
def secs:List Tm → List Tm
 | [] => []
 | t :: ts => sec t :: secs ts
end
theorem secs_map:∀ ts:List Tm,secs ts = ts.map sec
 | [] => rfl
 | t :: ts => by rw [secs,secs_map ts]; rfl
theorem sec_row (n:Str) (ps:List Tm) (m:Bool):sec (.mk "row" n ps m) = .mk "row" n [] true:=by rw [sec,if_pos rfl]
theorem sec_not {k n:Str} {ps:List Tm} {m:Bool} (h:k ≠ "row"):sec (.mk k n ps m) = .mk k n (ps.map sec) false:=by rw [sec,if_neg h,secs_map]
mutual
theorem sec_sec:∀ t:Tm,sec (sec t) = sec t
 | .mk k n ps m => by
  by_cases h:k = "row"
  ·subst h
   rw [sec_row,sec_row]
  ·have:=secs_secs ps
   rw [secs_map,secs_map] at this
   rw [sec_not h,sec_not h,this]
theorem secs_secs:∀ ts:List Tm,secs (secs ts) = secs ts
 | [] => rfl
 | t :: ts => by rw [secs,secs,sec_sec t,secs_secs ts]
end
mutual
def dep:Tm → Nat
 | .mk k n ps m => 1 + deps ps
def deps:List Tm → Nat
 | [] => 0
 | t :: ts => max (dep t) (deps ts)
end
mutual
def rws:Tm → List Str
 | .mk k n ps m => if k = "row" then [Tm.text (.mk k n ps m)] else rwss ps
def rwss:List Tm → List Str
 | [] => []
 | t :: ts => rws t ++ rwss ts
end
theorem rwss_flat:∀ ts:List Tm,rwss ts = (ts.map rws).flatten
 | [] => rfl
 | t :: ts => by rw [rwss,rwss_flat ts]; rfl
def kindT:Tm → Str
 | .mk k _ _ _ => k
mutual
def NmT:Tm → Prop
 | .mk k n ps m => (k = "row" → Nm n) ∧ NmTs ps
def NmTs:List Tm → Prop
 | [] => True
 | t :: ts => NmT t ∧ NmTs ts
end
theorem NmTs.of:∀ {ts:List Tm},(∀ t ∈ ts,NmT t) → NmTs ts
 | [],_ => by rw [NmTs]; trivial
 | t :: ts,h => by rw [NmTs]; exact ⟨h t (.head _),NmTs.of fun u hu => h u (.tail _ hu)⟩
theorem NmTs.at:∀ {ts:List Tm},NmTs ts → ∀ t ∈ ts,NmT t
 | u :: us,h,t,m => by
  rw [NmTs] at h
  rcases List.mem_cons.mp m with rfl | m
  ·exact h.1
  ·exact NmTs.at h.2 t m
theorem nm_row {n:Str} {m:Bool} (h:Nm n):NmT (.mk "row" n [] m):=by rw [NmT]; exact ⟨fun _ => h,by rw [NmTs]; trivial⟩
theorem nm_vl:∀ {d:Nat} {t:Tm},Vl d t → NmT t
 | 0,_,h => h.elim
 | d + 1,.mk k n ps m,⟨_,_,h⟩ => by
  rw [NmT]
  rcases h with ⟨rfl,t,mm,rfl,ht⟩ | ⟨rfl,_,_,hp⟩
  ·exact ⟨fun z => absurd z (by decide),NmTs.of fun u hu => by rw [List.mem_singleton.mp hu]; exact nm_row ht⟩
  ·exact ⟨fun z => absurd z (by decide),NmTs.of fun u hu => nm_vl (hp u hu)⟩
theorem nm_rd {d:Nat} {t:Tm} (h:Rd d t):NmT t:=by
 rcases h with ⟨n,m,rfl,hn⟩ | ⟨n,m,rfl,hn⟩ | rfl | ⟨n,ps,rfl,_,_,_,hp⟩ | h
 ·exact nm_row hn
 ·rw [NmT]
  exact ⟨fun z => absurd z (by decide),NmTs.of fun u hu => by rw [List.mem_singleton.mp hu]; exact nm_row hn⟩
 ·rw [NmT]
  exact ⟨fun z => absurd z (by decide),by rw [NmTs]; trivial⟩
 ·rw [NmT]
  exact ⟨fun z => absurd z (by decide),NmTs.of fun u hu => nm_vl (hp u hu)⟩
 ·exact nm_vl h
mutual
theorem nm_sec:∀ {t:Tm},NmT t → NmT (sec t)
 | .mk k n ps m,h => by
  rw [NmT] at h
  by_cases e:k = "row"
  ·subst e
   rw [sec_row]
   exact nm_row (h.1 rfl)
  ·rw [sec_not e,NmT]
   have:=nm_secs h.2
   rw [secs_map] at this
   exact ⟨fun z => absurd z e,this⟩
theorem nm_secs:∀ {ts:List Tm},NmTs ts → NmTs (secs ts)
 | [],_ => by rw [secs,NmTs]; trivial
 | t :: ts,h => by
  rw [NmTs] at h
  rw [secs,NmTs]
  exact ⟨nm_sec h.1,nm_secs h.2⟩
end
theorem text_sec:∀ {d:Nat} {t:Tm},MdOk d t → (sec t).text.length ≤ 2 * t.text.length + 1
 | 0,_,h => h.elim
 | d + 1,.mk k n ps m,⟨_,_,_,h4,h5⟩ => by
  have l:=lits
  have ih:∀ p ∈ ps,(sec p).text.length ≤ 2 * p.text.length + 1:=fun p hp => text_sec (h4 p hp)
  have sum:∀ qs:List Tm,(∀ p ∈ qs,(sec p).text.length ≤ 2 * p.text.length + 1) → ((qs.map sec).map fun t => t.text.length).sum ≤ 2 * (qs.map fun t => t.text.length).sum + qs.length:=by
   intro qs
   induction qs with
   | nil => intro _; simp
   | cons q qs ih =>
    intro h
    have h1:=h q (.head _)
    have h2:=ih fun p hp => h p (.tail _ hp)
    simp only [List.map_cons,List.sum_cons,List.length_cons] at h2 ⊢
    omega
  have s:=sum ps ih
  have app:∀ (a b:Str),a.length = 1 → b.length = 1 → ps ≠ [] → (∀ qs:List Tm,(Tm.text (.mk k n qs false)) = n ++ a ++ Txt.join ", " (qs.map Tm.text) ++ b) → m = false → k ≠ "row" → (sec (.mk k n ps m)).text.length ≤ 2 * (Tm.text (.mk k n ps m)).length + 1:=by
   intro a b ha hb hn e em hk
   subst em
   rw [sec_not hk,e,e]
   have j1:=join_len ", " ((ps.map sec).map Tm.text)
   have j2:=join_ge ", " (ps.map Tm.text)
   have e1:∀ qs:List Tm,((qs.map Tm.text).map fun x => x.length) = qs.map fun t => t.text.length:=fun qs => by rw [List.map_map]; rfl
   rw [e1] at j1 j2
   rw [List.length_map,List.length_map,l.2.2.2.2.2.2.2.1] at j1
   rw [List.length_map,l.2.2.2.2.2.2.2.1] at j2
   have hp:0 < ps.length:=List.length_pos_iff.mpr hn
   rw [lenA,lenA,lenA,lenA,lenA,lenA,ha,hb]
   omega
  rcases h5 with ⟨rfl,rfl⟩ | ⟨rfl,rfl,t,mm,rfl,ht⟩ | ⟨rfl,rfl,rfl,t,mm,rfl,ht⟩ | ⟨rfl,rfl,rfl,rfl⟩ | ⟨hk,rfl,hn⟩
  ·rw [sec_row,Tm.text,Tm.text,wr,wr,if_pos rfl,if_pos rfl,if_pos rfl,lenA,l.1]
   split
   ·rw [lenA]; omega
   ·by_cases z:n.length = 0
    ·omega
    ·omega
  ·have h0:=ih _ (.head _)
   have e:∀ u:Tm,Tm.text (.mk "column" n [u] false) = u.text ++ "." ++ n:=fun u => by rw [Tm.text,wr,if_neg (by decide),if_pos rfl]; rfl
   rw [sec_not (by decide),List.map_cons,List.map_nil,e,e,lenA,lenA,lenA,lenA,l.2.1]
   omega
  ·have h0:=ih _ (.head _)
   have e:∀ u:Tm,Tm.text (.mk "place" "" [u] false) = "@" ++ u.text:=fun u => by rw [Tm.text,wr,if_neg (by decide),if_neg (by decide),if_pos rfl]; rfl
   rw [sec_not (by decide),List.map_cons,List.map_nil,e,e,lenA,lenA,l.2.2.1]
   omega
  ·rw [sec_not (by decide)]
   simp only [List.map_nil]
   omega
  ·rcases hk with rfl | rfl
   ·refine app "(" ")" l.2.2.2.1 l.2.2.2.2.1 hn (fun qs => ?_) rfl (by decide)
    rw [Tm.text,wr,if_neg (by decide),if_neg (by decide),if_neg (by decide),if_neg (by decide),if_pos rfl,texts_map]
   ·refine app "[" "]" l.2.2.2.2.2.1 l.2.2.2.2.2.2.1 hn (fun qs => ?_) rfl (by decide)
    rw [Tm.text,wr,if_neg (by decide),if_neg (by decide),if_neg (by decide),if_neg (by decide),if_neg (by decide),texts_map]
theorem md_sec:∀ {d:Nat} {t:Tm},MdOk d t → t.text.length ≤ 9000 → MdOk d (sec t)
 | 0,_,h,_ => h.elim
 | d + 1,.mk k n ps m,h0,hl => by
  have b:=text_sec h0
  obtain ⟨h1,h2,h3,h4,h5⟩:=h0
  have g:=(text_ge h5).2
  have hp:∀ p ∈ ps,MdOk d (sec p):=fun p hp => md_sec (h4 p hp) (by have:=g p hp; omega)
  by_cases e:k = "row"
  ·subst e
   rw [sec_row] at b ⊢
   exact ⟨h1,by omega,by simp,by simp,.inl ⟨rfl,rfl⟩⟩
  ·rw [sec_not e] at b ⊢
   refine ⟨h1,by omega,by simpa using h3,fun p hp' => ?_,?_⟩
   ·obtain ⟨q,hq,rfl⟩:=List.mem_map.mp hp'
    exact hp q hq
   ·rcases h5 with ⟨rfl,rfl⟩ | ⟨rfl,rfl,t,mm,rfl,ht⟩ | ⟨rfl,rfl,rfl,t,mm,rfl,ht⟩ | ⟨rfl,rfl,rfl,rfl⟩ | ⟨hk,rfl,hn⟩
    ·exact absurd rfl e
    ·exact .inr (.inl ⟨rfl,rfl,t,true,by rw [List.map_cons,List.map_nil,sec_row],ht⟩)
    ·exact .inr (.inr (.inl ⟨rfl,rfl,rfl,t,true,by rw [List.map_cons,List.map_nil,sec_row],ht⟩))
    ·exact .inr (.inr (.inr (.inl ⟨rfl,rfl,rfl,rfl⟩)))
    ·exact .inr (.inr (.inr (.inr ⟨hk,rfl,by simpa using hn⟩)))
mutual
theorem all_sec:∀ t:Tm,(allT (sec t)).length ≤ (allT t).length
 | .mk k n ps m => by
  have h:=alls_sec ps
  rw [secs_map] at h
  by_cases e:k = "row"
  ·subst e
   rw [sec_row,allT,allT,allTs]
   simp
  ·rw [sec_not e,allT,allT,List.length_append,List.length_append]
   simp
   omega
theorem alls_sec:∀ ts:List Tm,(allTs (secs ts)).length ≤ (allTs ts).length
 | [] => by rw [secs]; exact Nat.le_refl _
 | t :: ts => by
  have h1:=all_sec t
  have h2:=alls_sec ts
  rw [secs,allTs,allTs,List.length_append,List.length_append]
  omega
end
end
section
mutual
theorem all_nm:∀ {t:Tm},NmT t → ∀ u ∈ allT t,NmT u
 | .mk k n ps m,h,u,hu => by
  have h0:=h
  rw [NmT] at h
  rw [allT] at hu
  rcases List.mem_append.mp hu with hu | hu
  ·exact alls_nm h.2 u hu
  ·rw [List.mem_singleton.mp hu]; exact h0
theorem alls_nm:∀ {ts:List Tm},NmTs ts → ∀ u ∈ allTs ts,NmT u
 | [],_,u,hu => by simp [allTs] at hu
 | t :: ts,h,u,hu => by
  rw [NmTs] at h
  rw [allTs] at hu
  rcases List.mem_append.mp hu with hu | hu
  ·exact all_nm h.1 u hu
  ·exact alls_nm h.2 u hu
end
theorem rwss_mem:∀ {ts:List Tm} {x:Str},(∀ t ∈ ts,(x ∈ rws t ↔ ∃ u ∈ allT t,kindT u = "row" ∧ u.text = x)) → (x ∈ rwss ts ↔ ∃ u ∈ allTs ts,kindT u = "row" ∧ u.text = x)
 | [],x,_ => by simp [rwss,allTs]
 | t :: ts,x,h => by
  have h1:=h t (.head _)
  have h2:=rwss_mem (x:=x) fun u hu => h u (.tail _ hu)
  rw [rwss,allTs,List.mem_append,h1,h2]
  constructor
  ·rintro (⟨u,a,b⟩ | ⟨u,a,b⟩)
   ·exact ⟨u,List.mem_append_left _ a,b⟩
   ·exact ⟨u,List.mem_append_right _ a,b⟩
  ·rintro ⟨u,a,b⟩
   rcases List.mem_append.mp a with a | a
   ·exact .inl ⟨u,a,b⟩
   ·exact .inr ⟨u,a,b⟩
theorem rws_mem:∀ {d:Nat} {t:Tm},MdOk d t → ∀ x,(x ∈ rws t ↔ ∃ u ∈ allT t,kindT u = "row" ∧ u.text = x)
 | 0,_,h,_ => h.elim
 | d + 1,.mk k n ps m,⟨_,_,_,h4,h5⟩,x => by
  have ih:=rwss_mem (ts:=ps) (x:=x) fun t ht => rws_mem (h4 t ht) x
  by_cases e:k = "row"
  ·have e0:ps = []:=by
    rcases h5 with ⟨_,h⟩ | ⟨h,_⟩ | ⟨h,_⟩ | ⟨h,_⟩ | ⟨h,_⟩
    ·exact h
    ·exact absurd (e.symm.trans h) (by decide)
    ·exact absurd (e.symm.trans h) (by decide)
    ·exact absurd (e.symm.trans h) (by decide)
    ·rcases h with h | h <;> exact absurd (e.symm.trans h) (by decide)
   subst e; subst e0
   rw [rws,if_pos rfl,allT,allTs]
   constructor
   ·intro hx
    exact ⟨_,by simp,rfl,(List.mem_singleton.mp hx).symm⟩
   ·rintro ⟨u,hu,_,rfl⟩
    rw [List.nil_append] at hu
    rw [List.mem_singleton.mp hu]
    simp
  ·rw [rws,if_neg e,allT,ih]
   constructor
   ·rintro ⟨u,a,b⟩
    exact ⟨u,List.mem_append_left _ a,b⟩
   ·rintro ⟨u,a,b,c⟩
    rcases List.mem_append.mp a with a | a
    ·exact ⟨u,a,b,c⟩
    ·rw [List.mem_singleton.mp a] at b
     exact absurd b e
theorem once_has {l:List Tm} {u:Tm} (h:u ∈ l):∃ v ∈ once l,v.text = u.text:=by
 have e:=any_addT u.text l []
 have z:(l.any fun v => decide (v.text = u.text)) = true:=List.any_eq_true.mpr ⟨u,h,by simp⟩
 rw [z,Bool.or_true] at e
 obtain ⟨v,hv,q⟩:=List.any_eq_true.mp e
 exact ⟨v,hv,of_decide_eq_true q⟩
theorem bad_signs:∀ c ∈ ([46,64,40,91]:List Nat),c ∉ tl signs ∧ c ≠ 39:=by decide +kernel
theorem tl_lits:tl "'" = [39] ∧ tl "." = [46] ∧ tl "@" = [64] ∧ tl "(" = [40] ∧ tl "[" = [91] ∧ tl "0" = [48] ∧ 48 ∉ tl letters:=by decide +kernel
theorem row_signs {n:Str} {m:Bool} (h:Nm n):(∀ c ∈ tl (Tm.text (.mk "row" n [] m)),c ∈ tl signs ∨ c = 39) ∧ ∃ c r,tl (Tm.text (.mk "row" n [] m)) = c :: r ∧ c ∈ tl letters:=by
 obtain ⟨c,r,e,hc⟩:=h.1.head
 have hs:=h.1.2.2.2
 rw [Tm.text,wr,if_pos rfl]
 split
 ·rw [tl_append,tl_lits.1]
  refine ⟨fun x hx => ?_,c,r ++ [39],by rw [e]; rfl,hc⟩
  rcases List.mem_append.mp hx with hx | hx
  ·exact .inl (hs x hx)
  ·exact .inr (List.mem_singleton.mp hx)
 ·exact ⟨fun x hx => .inl (hs x hx),c,r,e,hc⟩
theorem row_by_text {d:Nat} {u:Tm} (h:MdOk d u) {n:Str} {m:Bool} (hn:Nm n) (e:u.text = Tm.text (.mk "row" n [] m)):kindT u = "row" := by
 obtain ⟨r1,c0,r0,r2,r3⟩:=row_signs (m:=m) hn
 have no:∀ c ∈ ([46,64,40,91]:List Nat),c ∉ tl u.text:=fun c hc hx => by
  rw [e] at hx
  have b:=bad_signs c hc
  exact (r1 c hx).elim b.1 b.2
 cases d with
 | zero => exact h.elim
 | succ d =>
  cases u with
  | mk k nm ps mm =>
   obtain ⟨_,_,_,_,h5⟩:=h
   rcases h5 with ⟨rfl,rfl⟩ | ⟨rfl,rfl,t,q,rfl,ht⟩ | ⟨rfl,rfl,rfl,t,q,rfl,ht⟩ | ⟨rfl,rfl,rfl,rfl⟩ | ⟨hk,rfl,hp⟩
   ·rfl
   ·refine absurd ?_ (no 46 (by simp))
    rw [Tm.text,wr,if_neg (by decide),if_pos rfl,tl_append,tl_append,tl_lits.2.1]
    simp
   ·refine absurd ?_ (no 64 (by simp))
    rw [Tm.text,wr,if_neg (by decide),if_neg (by decide),if_pos rfl,tl_append,tl_lits.2.2.1]
    simp
   ·have z:Tm.text (.mk "zero" "" [] false) = "0" := by rw [Tm.text,wr,if_neg (by decide),if_neg (by decide),if_neg (by decide),if_pos rfl]
    rw [z] at e
    have e2:=congrArg tl e
    rw [tl_lits.2.2.2.2.2.1,r2] at e2
    injection e2 with e3
    rw [← e3] at r3
    exact absurd r3 tl_lits.2.2.2.2.2.2
   ·rcases hk with rfl | rfl
    ·refine absurd ?_ (no 40 (by simp))
     rw [Tm.text,wr,if_neg (by decide),if_neg (by decide),if_neg (by decide),if_neg (by decide),if_pos rfl,tl_append,tl_append,tl_append,tl_lits.2.2.2.1]
     simp
    ·refine absurd ?_ (no 91 (by simp))
     rw [Tm.text,wr,if_neg (by decide),if_neg (by decide),if_neg (by decide),if_neg (by decide),if_neg (by decide),tl_append,tl_append,tl_append,tl_lits.2.2.2.2.1]
     simp
theorem once_rows {d:Nat} {t:Tm} (h:MdOk d t) (hn:NmT t) (x:Str):(∃ v ∈ once (allT t),kindT v = "row" ∧ v.text = x) ↔ x ∈ rws t:=by
 rw [rws_mem h x]
 constructor
 ·rintro ⟨v,hv,a,b⟩
  exact ⟨v,once_mem hv,a,b⟩
 ·rintro ⟨u,hu,a,b⟩
  obtain ⟨v,hv,e⟩:=once_has hu
  refine ⟨v,hv,?_,e.trans b⟩
  have ou:=all_ok h u hu
  have nu:=all_nm hn u hu
  cases u with
  | mk k n ps m =>
   obtain rfl:k = "row" := a
   rw [NmT] at nu
   have e0:ps = []:=by
    cases d with
    | zero => exact ou.elim
    | succ d =>
     obtain ⟨_,_,_,_,h5⟩:=ou
     rcases h5 with ⟨_,h⟩ | ⟨h,_⟩ | ⟨h,_⟩ | ⟨h,_⟩ | ⟨h,_⟩
     ·exact h
     ·exact absurd h (by decide)
     ·exact absurd h (by decide)
     ·exact absurd h (by decide)
     ·rcases h with h | h <;> exact absurd h (by decide)
   subst e0
   exact row_by_text (all_ok h v (once_mem hv)) (nu.1 rfl) e
def kdX (y:GG.Tx):Str:=match y.d with
 | .obj _ fs => match fs.lookup ("kind" : Str) with
  | some (.str k) => k
  | _ => ""
 | _ => ""
theorem kdX_tx (C:Addr) (t:Tm):kdX (txT C t) = kindT t:=by
 cases t with
 | mk k n ps m =>
  unfold kdX
  rw [txT_d,tmD_eq]
  rfl
theorem subX_at (C:Addr) {d:Nat} {t:Tm} (h:MdOk d t):GG.subX (txT C t) = (once (allT t)).map (txT C):=by rw [subX_map,sub_once (md_len h)]
theorem rowsX_map (C:Addr) (l:List Tm):GU.rowsX kdX (l.map (txT C)) = (l.filter fun u => decide (kindT u = ("row" : Str))).map Tm.text:=by
 unfold GU.rowsX
 rw [List.filter_map,List.map_map]
 have e1:((fun y:GG.Tx => decide (kdX y = ("row" : Str))) ∘ txT C) = fun u:Tm => decide (kindT u = ("row" : Str)):=by
  funext u
  simp [kdX_tx]
 have e2:(GG.Tx.txt ∘ txT C) = Tm.text:=by
  funext u
  exact txT_txt C u
 rw [e1,e2]
def SrtRows (t:Tm) (ys:List Str):Prop:=ys.Nodup ∧ (∀ x,x ∈ ys ↔ x ∈ rws t) ∧ PyProof.Rows.sortedS ys = true
theorem srt_one {t:Tm} {ys zs:List Str} (h:SrtRows t ys) (g:SrtRows t zs):ys = zs :=
 sorted_one (sorted_pw h.2.2) (sorted_pw g.2.2) ((List.perm_ext_iff_of_nodup h.1 g.1).mpr fun x => (h.2.1 x).trans (g.2.1 x).symm)
theorem srt_due {t:Tm} {ys:List Str} (p:ys.Perm (GU.addN [] (rws t))) (s:PyProof.Rows.sortedS ys = true):SrtRows t ys :=
 ⟨p.nodup_iff.mpr (GU.addN_nd List.nodup_nil),fun x => by rw [p.mem_iff,GU.addN_mem]; simp,s⟩
theorem srt_told {C:Addr} {d:Nat} {t:Tm} {ys:List Str} (h:MdOk d t) (hn:NmT t) (p:ys.Perm (GU.addN [] (GU.rowsX kdX (GG.subX (txT C t))))) (s:PyProof.Rows.sortedS ys = true):SrtRows t ys:=by
 refine ⟨p.nodup_iff.mpr (GU.addN_nd List.nodup_nil),fun x => ?_,s⟩
 rw [p.mem_iff,GU.addN_mem,subX_at C h,rowsX_map,← once_rows h hn x,List.mem_map]
 constructor
 ·rintro (h | ⟨v,hv,e⟩)
  ·cases h
  ·obtain ⟨a,b⟩:=List.mem_filter.mp hv
   exact ⟨v,a,of_decide_eq_true b,e⟩
 ·rintro ⟨v,a,b,e⟩
  exact .inr ⟨v,List.mem_filter.mpr ⟨a,decide_eq_true b⟩,e⟩
mutual
theorem rws_len:∀ t:Tm,(rws t).length ≤ (allT t).length
 | .mk k n ps m => by
  have h:=rwss_len ps
  rw [rws,allT,List.length_append]
  split
  ·simp
  ·simp; omega
theorem rwss_len:∀ ts:List Tm,(rwss ts).length ≤ (allTs ts).length
 | [] => Nat.le_refl _
 | t :: ts => by
  have h1:=rws_len t
  have h2:=rwss_len ts
  rw [rwss,allTs,List.length_append,List.length_append]
  omega
end
theorem mx_fold:∀ (ts:List Tm) (a:Nat),(ts.map fun t => ((dep t:Nat):Int)).foldl GU.mx (a:Int) = ((max a (deps ts):Nat):Int)
 | [],a => by simp [deps]
 | t :: ts,a => by
  rw [List.map_cons,List.foldl_cons]
  have e:GU.mx (a:Int) ((dep t:Nat):Int) = ((max a (dep t):Nat):Int):=by
   unfold GU.mx
   split <;> omega
  rw [e,mx_fold ts,deps]
  congr 1
  omega
theorem mxD_deps (ts:List Tm):GU.mxD 0 (ts.map fun t => ((dep t:Nat):Int)) = ((deps ts:Nat):Int):=by
 cases ts with
 | nil => rfl
 | cons t ts =>
  rw [List.map_cons,GU.mxD,mx_fold,deps]
theorem deps_ge:∀ {ts:List Tm} {t:Tm},t ∈ ts → dep t ≤ deps ts
 | u :: us,t,h => by
  rw [deps]
  rcases List.mem_cons.mp h with rfl | h
  ·omega
  ·have:=deps_ge h; omega
theorem deps_in:∀ ts:List Tm,deps ts = 0 ∨ ∃ t ∈ ts,dep t = deps ts
 | [] => .inl rfl
 | t :: ts => by
  rw [deps]
  rcases deps_in ts with h | ⟨u,hu,e⟩
  ·exact .inr ⟨t,.head _,by omega⟩
  ·by_cases q:dep t ≤ deps ts
   ·exact .inr ⟨u,.tail _ hu,by omega⟩
   ·exact .inr ⟨t,.head _,by omega⟩
theorem max_deps {ts:List Tm} {m:Int} (h1:m ∈ (0:Int) :: ts.map fun t => ((dep t:Nat):Int)) (h2:∀ y ∈ (0:Int) :: ts.map fun t => ((dep t:Nat):Int),y ≤ m):m = ((deps ts:Nat):Int):=by
 have le:m ≤ ((deps ts:Nat):Int):=by
  rcases List.mem_cons.mp h1 with rfl | h
  ·omega
  ·obtain ⟨t,ht,rfl⟩:=List.mem_map.mp h
   have:=deps_ge ht
   omega
 have ge:((deps ts:Nat):Int) ≤ m:=by
  rcases deps_in ts with h | ⟨t,ht,e⟩
  ·rw [h]
   exact h2 0 (.head _)
  ·rw [← e]
   exact h2 _ (.tail _ (List.mem_map.mpr ⟨t,ht,rfl⟩))
 omega
end
section
def phDepth (C:Addr) (d:Nat):Ph:=fun args S Kt => ∃ t,args = [.val (tmD C t)] ∧ MdOk d t ∧ Kt (.int (dep t:Nat)) S
def phSecond (C:Addr) (d:Nat):Ph:=fun args S Kt => ∃ t,args = [.val (tmD C t)] ∧ MdOk d t ∧ Kt (tmD C (sec t)) S
def phDepM (d:Nat):Ph:=fun args S Kt => ∃ t,args = [.val (mdD t)] ∧ MdOk d t ∧ Kt (.int (dep t:Nat)) S
def phSecM (d:Nat):Ph:=fun args S Kt => ∃ t,args = [.val (mdD t)] ∧ MdOk d t ∧ Kt (mdD (sec t)) S
def phRowsM (d:Nat):Ph:=fun args S Kt => ∃ t,args = [.val (mdD t)] ∧ MdOk d t ∧ Kt (.lst ((rws t).map GD.D.str)) S
def phRN (C:Addr):Ph:=fun args S Kt => ∃ t,args = [.val (tmD C t)] ∧ MdOk 11 t ∧ NmT t ∧ (allT t).length ≤ 2900 ∧ ∀ i ys,S i = none → SrtRows t ys → Kt (.ref i) (updS S i (.lst (ys.map GD.D.str)))
section
variable {P:Program} {w:World} {K:PySem.W.Frag} {mg:Str → Option Value} {base:Heap} {C aW:Addr}
theorem deadP {k:Nat} {f qual:Str} {st:Stmt} {N ps:List Str} {Φ:Ph} (Df:GU.Prp K C f qual st) (S:FnScope N ps (defScope st))
  (hb:∀ (kV doc pm:Value) (an:Option Addr) (cdv ct:Value) (us:List Value),us.length = ps.length → bindArgs (PySem.W.fnOf f qual (defArgs st) (defBody st) (defScope st) .none kV doc pm an cdv ct) ⟨us,[]⟩ = pure (ps.zip us)) (no:∀ args S Kt,¬ Φ args S Kt):GU.PrpM P w K mg base (k + 1) C f (spD K Φ) :=
 GU.prpM Df S hb (fun args S Kt h => (no _ _ _ h).elim) fun f cdv A outer s H E hr => ⟨dNever,s_nevers,fun args S Kt h => (no _ _ _ h).elim⟩
theorem deadM {k:Nat} {m qual:Str} {st:Stmt} {N ps:List Str} {Φ:Ph} (Df:Mth K C m qual st) (S:FnScope N ps (defScope st))
  (hb:∀ (kV doc pm:Value) (an:Option Addr) (cdv ct:Value) (us:List Value),us.length = ps.length → bindArgs (PySem.W.fnOf m qual (defArgs st) (defBody st) (defScope st) .none kV doc pm an cdv ct) ⟨us,[]⟩ = pure (ps.zip us)) (no:∀ args S Kt,¬ Φ args S Kt):Met P w K mg base (k + 1) C m (spD K Φ) :=
 dmet Df S hb (fun args S Kt h => (no _ _ _ h).elim) fun f cdv A outer s H E hr => ⟨dNever,s_nevers,fun args S Kt h => (no _ _ _ h).elim⟩
theorem tm_objs (S:Sto) (u:Tm):∃ fs,objFs S C (tmD C u) = some fs ∧ fs.lookup ("second" : Str) = none ∧ fs.lookup ("row_names" : Str) = none:=by
 cases u with
 | mk k n ts m => rw [tmD_eq,objFs_obj]; exact ⟨_,rfl,rfl,rfl⟩
theorem pDepth (Df:GU.Prp K C "depth" "Term.depth" s_Term_depth) (T:Txt K mg C aW) (F:TrmF K C):∀ d,GU.PrpM P w K mg base (2 * d + 1) C "depth" (spD K (phDepth C d))
 | 0 => deadP Df sc_Term_depth (fun _ _ _ _ _ _ us hl => match us,hl with | [_],_ => rfl) fun args S Kt ⟨t,_,h,_⟩ => h
 | d + 1 => by
  have pDepth:=pDepth Df T F d
  refine GU.prpM Df sc_Term_depth (fun _ _ _ _ _ _ us hl => match us,hl with | [_],_ => rfl) (fun args S Kt h => by obtain ⟨t,rfl,_⟩:=h; rfl) (fun f cdv A outer s H E hr => ⟨_,(s_one (s_ret (d_add d_int (GU.d_maxD rfl (by rfl) T.n_max (l_n (n_lc (own:=[("part",1)]) (by rfl) sc_Term_depth.nd (i_b (b_d (d_fld F.a_parts (d_v (pv 0))))) (blkOk_by (own:=[("part",1)]) (N:=N_Term_depth) (sc:=defScope s_Term_depth) (by decide +kernel)) (fun _ _ _ _ _ => g_name (pg_name (i:=1) sc_Term_depth.nd rfl (Or.inl rfl))) (fun _ _ _ _ _ => ts_nil) (fun _ _ _ _ _ => GU.d_propM F.a_kind.1 pDepth hr (by one_item) (d_v (pv 1))) (by simp))))))),fun args S Kt h => ?_⟩)
  obtain ⟨t,rfl,ok,k⟩:=h
  obtain ⟨kd,nm,ps,m⟩:=t
  obtain ⟨o1,o2,o3,o4,o5⟩:=ok
  simp? only [tm_parts]
  refine lc_map ps (tmD C) (fun t => .int ((dep t:Nat):Int)) rfl rfl (fun i q hi => ?_) ?_
  ·one_sign
   obtain ⟨fs,e,_⟩:=tm_objs (C:=C) S q
   exact ⟨⟨fs,e⟩,q,rfl,o4 q (List.mem_of_getElem? hi),step1 hi (Nat.le_trans o3 (by decide)) rfl rfl rfl⟩
  ·one_sign
   refine ⟨ps.map fun t => ((dep t:Nat):Int),by rw [List.map_map]; rfl,?_⟩
   rw [mxD_deps]
   have e:((dep (.mk kd nm ps m):Nat):Int) = 1 + ((deps ps:Nat):Int):=by rw [dep]; omega
   rw [e] at k
   exact k
theorem mSecond (Df:Mth K C "second" "Term.second" s_Term_second) (T:Txt K mg C aW) (F:TrmF K C) (kT4:TermK P w K mg base C 4 [] [.p 0,.p 1,.p 2,.p 3,.p 4]) (kT3:TermK P w K mg base C 3 [] [.p 0,.p 1,.p 2,.p 3,.d 0]):∀ d,Met P w K mg base (d + 4) C "second" (spD K (phSecond C d))
 | 0 => deadM Df sc_Term_second (fun _ _ _ _ _ _ us hl => match us,hl with | [_],_ => rfl) fun args S Kt ⟨t,_,h,_⟩ => h
 | d + 1 => by
  have mSecond:=mSecond Df T F kT4 kT3 d
  refine dmet Df sc_Term_second (fun _ _ _ _ _ _ us hl => match us,hl with | [_],_ => rfl) (fun args S Kt h => by obtain ⟨t,rfl,_⟩:=h; rfl) (fun f cdv A outer s H E hr => ⟨_,(s_cons (s_if (dt_cmp op_eq l_eq (d_fld F.a_kind (d_v (pv 0))) d_str (nomark _)) (s_one (s_ret (d_makeN kT4 (fun _ _ => .cons (.bl false) .nil) hr (by one_item) (by rfl) (a_v d_str (a_v (d_fld F.a_name (d_v (pv 0))) (a_b (d_n (n_lst a_nil)) (a_v d_bl a_nil)))) k_nil))) s_nil)
   (s_one (s_ret (d_makeN kT3 (fun _ _ => .cons (.bl false) .nil) hr (by one_item) (by rfl) (a_v (d_fld F.a_kind (d_v (pv 0))) (a_v (d_fld F.a_name (d_v (pv 0))) (a_b (d_n (n_lc (own:=[("part",1)]) (by rfl) sc_Term_second.nd (i_b (b_d (d_fld F.a_parts (d_v (pv 0))))) (blkOk_by (own:=[("part",1)]) (N:=N_Term_second) (sc:=defScope s_Term_second) (by decide +kernel)) (fun _ _ _ _ _ => g_name (pg_name (i:=1) sc_Term_second.nd rfl (Or.inl rfl))) (fun _ _ _ _ _ => ts_nil) (fun _ _ _ _ _ => d_meth0 F.a_kind.1 mSecond hr (by one_item) (d_v (pv 1))) (by simp))) a_nil))) k_nil)))),fun args S Kt h => ?_⟩)
  obtain ⟨t,rfl,ok,k⟩:=h
  obtain ⟨kd,nm,ps,m⟩:=t
  obtain ⟨o1,o2,o3,o4,o5⟩:=ok
  simp? only [tm_kind,tm_name,tm_parts]
  split
  ·rename_i h
   have h:kd = "row" := by simpa using h
   subst h
   intro i hi
   refine ⟨i,"row",nm,[],true,rfl,updS_same,⟨by omega,by simp,by simp⟩,by decide,?_⟩
   one_sign
   rw [delS_none hi]
   rw [sec_row,tmD_eq] at k
   simpa using k
  ·rename_i h
   have h:kd ≠ "row" := by simpa using h
   refine lc_map ps (tmD C) (fun u => tmD C (sec u)) rfl rfl (fun jj u hu => ?_) ?_
   ·one_sign
    obtain ⟨fs,e,e2,_⟩:=tm_objs (C:=C) S u
    exact ⟨⟨fs,e,e2⟩,u,rfl,o4 u (List.mem_of_getElem? hu),step1 hu (Nat.le_trans o3 (by decide)) rfl rfl rfl⟩
   ·intro i hi
    refine ⟨i,kd,nm,ps.map sec,false,by rw [List.map_map]; rfl,updS_same,⟨by omega,by simp; omega,fun x hx => ?_⟩,fun z => by simpa using (kinds o5).1 z,?_⟩
    ·obtain ⟨v,hv,rfl⟩:=List.mem_map.mp hx
     obtain ⟨u,hu,rfl⟩:=List.mem_map.mp hv
     have b1:=text_sec (o4 u hu)
     have b2:=(o4 u hu).len
     omega
    ·one_sign
     rw [delS_none hi]
     rw [sec_not h,tmD_eq] at k
     have e:(decide (kd = "row") && false) = false:=by simp
     rw [e]
     exact k
theorem mRows (Df:Mth K C "row_names" "Term.row_names" s_Term_row_names) (T:Txt K mg C aW) (F:TrmF K C) (kSub:GG.SubK K C) (mSubs:Mth K C "subterms" "Term.subterms" GG.s_sub):Met P w K mg base 43 C "row_names" (spD K (phRN C)):=by
 refine dmet Df sc_Term_row_names (fun _ _ _ _ _ _ us hl => match us,hl with | [_],_ => rfl) (fun args S Kt h => by obtain ⟨t,rfl,_⟩:=h; rfl) (fun f cdv A outer s H E hr => ⟨_,(s_one (s_ret (d_cellL (GU.n_rows (h:=11) (i:=1) mSubs kSub F.a_kind.2 (by rfl) sc_Term_row_names.nd (hr.mono (by omega)) (d_v (pv 0)) (by rfl) T.n_sorted (by unfold GG.CallEq; rfl) (blkOk_by (own:=[("term",1)]) (N:=N_Term_row_names) (sc:=defScope s_Term_row_names) (by decide +kernel)) rfl (fun _ _ => rfl) (by decide) (by decide) (fun _ => rfl))))),fun args S Kt h => ?_⟩)
 obtain ⟨t,rfl,ok,nm,hl,k⟩:=h
 one_sign
 have hs:=subX_at C ok
 refine ⟨txT C t,(txT_d C t).symm,txT_wf C t,md_h ok,md_sml ok,?_,kdX,fun y hy => ?_,fun ys pm so => ?_⟩
 ·rw [hs,List.length_map]
  exact Nat.le_trans (once_len _) (Nat.le_trans hl (by decide))
 ·rw [hs] at hy
  obtain ⟨u,hu,rfl⟩:=List.mem_map.mp hy
  cases u with
  | mk kd n ps m =>
   refine ⟨_,(txT_d C _).trans (tmD_eq C kd n ps m),?_,?_⟩
   ·rw [kdX_tx]; rfl
   ·rw [txT_txt,Tm.text,texts_map]; rfl
 ·intro i hi
  exact k i ys hi (srt_told ok nm pm so)
theorem cDepth (Df:Dfn K mg "_law_depth" s_law_depth) (T:Txt K mg C aW):∀ d,Cal P w K mg base (d + 1) "_law_depth" (spD K (phDepM d))
 | 0 => dead Df sc_law_depth (fun _ _ _ _ _ _ us hl => match us,hl with | [_],_ => rfl) fun args S Kt ⟨t,_,h,_⟩ => h
 | d + 1 => by
  have cDepth:=cDepth Df T d
  refine dcal Df sc_law_depth (fun _ _ _ _ _ _ us hl => match us,hl with | [_],_ => rfl) (fun args S Kt h => by obtain ⟨t,rfl,_⟩:=h; rfl) (fun f cdv A outer s H E hr => ⟨_,(s_one (s_ret (d_add d_int (d_maxL rfl (by rfl) T.n_max (l_n (n_cat (d_n (n_lst (a_v d_int a_nil))) (d_n (n_lc (own:=[("_law_part",1)]) (by rfl) sc_law_depth.nd (i_b (b_d (d_ix (d_v (pv 0)) d_int (fun _ _ => rfl)))) (blkOk_by (own:=[("_law_part",1)]) (N:=N_law_depth) (sc:=defScope s_law_depth) (by decide +kernel)) (fun _ _ _ _ _ => g_name (pg_name (i:=1) sc_law_depth.nd rfl (Or.inl rfl))) (fun _ _ _ _ _ => ts_nil) (fun _ _ _ _ _ => d_call cDepth hr (by one_item) (by rfl) (a_v (d_v (pv 1)) a_nil)) (by simp))))))))),fun args S Kt h => ?_⟩)
  obtain ⟨t,rfl,ok,k⟩:=h
  obtain ⟨kd,nm,ps,m⟩:=t
  obtain ⟨o1,o2,o3,o4,o5⟩:=ok
  rw [mdD_eq]
  one_sign
  refine ⟨_,rfl,?_⟩
  refine ⟨_,rfl,?_⟩
  refine lc_map ps mdD (fun t => .int ((dep t:Nat):Int)) rfl rfl (fun i q hi => ?_) ?_
  ·one_sign
   exact ⟨q,rfl,o4 q (List.mem_of_getElem? hi),step1 hi (Nat.le_trans o3 (by decide)) rfl rfl rfl⟩
  ·one_sign
   refine ⟨by simp; omega,0 :: ps.map fun t => ((dep t:Nat):Int),by rw [List.map_cons,List.map_map]; rfl,by simp,fun mm h1 h2 => ?_⟩
   rw [max_deps h1 h2]
   rw [dep] at k
   have e2:((1 + deps ps:Nat):Int) = 1 + ((deps ps:Nat):Int):=by omega
   rw [e2] at k
   exact k
theorem mdD_sec {kd nm:Str} {ps:List Tm} {m:Bool} (h:KindOk kd nm ps m):mdD (sec (.mk kd nm ps m)) = .tup [.str kd,.str nm,.tup (ps.map fun t => mdD (sec t)),.bl (decide (kd = "row"))]:=by
 by_cases e:kd = "row"
 ·have e0:ps = []:=by
   rcases h with ⟨_,h⟩ | ⟨h,_⟩ | ⟨h,_⟩ | ⟨h,_⟩ | ⟨h,_⟩
   ·exact h
   ·exact absurd (e.symm.trans h) (by decide)
   ·exact absurd (e.symm.trans h) (by decide)
   ·exact absurd (e.symm.trans h) (by decide)
   ·rcases h with h | h <;> exact absurd (e.symm.trans h) (by decide)
  subst e; subst e0
  rw [sec_row,mdD_eq]
  simp
 ·rw [sec_not e,mdD_eq,List.map_map,decide_eq_false e]
  rfl
theorem cSecond (Df:Dfn K mg "_law_second" s_law_second) (T:Txt K mg C aW):∀ d,Cal P w K mg base (d + 1) "_law_second" (spD K (phSecM d))
 | 0 => dead Df sc_law_second (fun _ _ _ _ _ _ us hl => match us,hl with | [_],_ => rfl) fun args S Kt ⟨t,_,h,_⟩ => h
 | d + 1 => by
  have cSecond:=cSecond Df T d
  refine dcal Df sc_law_second (fun _ _ _ _ _ _ us hl => match us,hl with | [_],_ => rfl) (fun args S Kt h => by obtain ⟨t,rfl,_⟩:=h; rfl) (fun f cdv A outer s H E hr => ⟨_,(s_cons (s_asg (d_v (pv 0)) (g_tup (n:=4) rfl (gs_cons (g_name (pg_name (i:=1) sc_law_second.nd rfl (Or.inl rfl))) (gs_cons (g_name (pg_name (i:=2) sc_law_second.nd rfl (Or.inl rfl))) (gs_cons (g_name (pg_name (i:=3) sc_law_second.nd rfl (Or.inl rfl))) (gs_cons (g_name (pg_name (i:=4) sc_law_second.nd rfl (Or.inl rfl))) gs_nil))))))
   (s_one (s_ret (d_tup (a_v (d_v (pv 1)) (a_v (d_v (pv 2)) (a_v (d_tupL (by rfl) T.n_tuple (l_n (n_lc (own:=[("_law_part",5)]) (by rfl) sc_law_second.nd (i_b (b_s (pv 3))) (blkOk_by (own:=[("_law_part",5)]) (N:=N_law_second) (sc:=defScope s_law_second) (by decide +kernel)) (fun _ _ _ _ _ => g_name (pg_name (i:=5) sc_law_second.nd rfl (Or.inl rfl))) (fun _ _ _ _ _ => ts_nil) (fun _ _ _ _ _ => d_call cSecond hr (by one_item) (by rfl) (a_v (d_v (pv 5)) a_nil)) (by simp)))) (a_v (d_cmp op_eq l_eq (d_v (pv 1)) d_str (nomark _)) a_nil)))))))),fun args S Kt h => ?_⟩)
  obtain ⟨t,rfl,ok,k⟩:=h
  obtain ⟨kd,nm,ps,m⟩:=t
  obtain ⟨o1,o2,o3,o4,o5⟩:=ok
  rw [mdD_eq]
  one_sign
  refine lc_map ps mdD (fun t => mdD (sec t)) rfl rfl (fun i q hi => ?_) ?_
  ·one_sign
   exact ⟨q,rfl,o4 q (List.mem_of_getElem? hi),step1 hi (Nat.le_trans o3 (by decide)) rfl rfl rfl⟩
  ·rw [mdD_sec o5] at k
   one_sign
   exact k
theorem cRows (Df:Dfn K mg "_law_rows" s_law_rows) (T:Txt K mg C aW) (cTextA:∀ d,Cal P w K mg base (d + 1) "_law_text" (spD K (phText d))):∀ d,Cal P w K mg base (d + 2) "_law_rows" (spD K (phRowsM d))
 | 0 => dead Df sc_law_rows (fun _ _ _ _ _ _ us hl => match us,hl with | [_],_ => rfl) fun args S Kt ⟨t,_,h,_⟩ => h
 | d + 1 => by
  have cRows:=cRows Df T cTextA d
  have cText:=cTextA (d + 1)
  refine dcal Df sc_law_rows (fun _ _ _ _ _ _ us hl => match us,hl with | [_],_ => rfl) (fun args S Kt h => by obtain ⟨t,rfl,_⟩:=h; rfl) (fun f cdv A outer s H E hr => ⟨_,(s_cons (s_if (dt_cmp op_eq l_eq (d_ix (d_v (pv 0)) d_int (fun _ _ => rfl)) d_str (nomark _)) (s_one (s_ret (d_n (n_lst (a_v (d_call cText hr (by one_item) (by rfl) (a_v (d_v (pv 0)) a_nil)) a_nil))))) s_nil)
   (s_cons (s_set (i:=1) sc_law_rows.nd rfl (Or.inl rfl) (d_n (n_lst a_nil)))
   (s_cons (s_for PassesOwn.never rfl (i_b (b_d (d_ix (d_v (pv 0)) d_int (fun _ _ => rfl)))) (g_name (pg_name (i:=2) sc_law_rows.nd rfl (Or.inl rfl)))
   (s_one (s_set (i:=1) sc_law_rows.nd rfl (Or.inl rfl) (d_n (n_cat (d_v (pv 1)) (d_call cRows hr (by one_item) (by rfl) (a_v (d_v (pv 2)) a_nil)))))))
   (s_one (s_ret (d_v (pv 1))))))),fun args S Kt h => ?_⟩)
  obtain ⟨t,rfl,ok,k⟩:=h
  have ok0:=ok
  obtain ⟨kd,nm,ps,m⟩:=t
  obtain ⟨o1,o2,o3,o4,o5⟩:=ok
  rw [mdD_eq]
  one_sign
  refine ⟨_,rfl,?_⟩
  one_sign
  split
  ·rename_i h
   have h:kd = "row" := by simpa using h
   subst h
   refine ⟨.mk "row" nm ps m,by rw [mdD_eq],ok0,?_⟩
   rw [rws,if_pos rfl] at k
   exact k
  ·rename_i h
   have h:kd ≠ "row" := by simpa using h
   rw [rws,if_neg h] at k
   let I:Nat → DS → Prop:=fun i δ => ∃ v2:Sl,δ = ⟨[.val (.tup [.str kd,.str nm,.tup (ps.map mdD),.bl m]),.val (.lst ((rwss (ps.take i)).map GD.D.str)),v2],S⟩
   have part:∀ i,(rwss (ps.take i)).length ≤ 30000:=fun i => by
    have e:rwss ps = rwss (ps.take i) ++ rwss (ps.drop i):=by rw [rwss_flat,rwss_flat,rwss_flat,← List.flatten_append,← List.map_append,List.take_append_drop]
    have h1:=rwss_len ps
    have h2:=md_count' ok0
    rw [allT,List.length_append] at h2
    rw [e,List.length_append] at h1
    omega
   refine ⟨_,rfl,_,rfl,?_⟩
   refine for_inv I ⟨_,rfl⟩ ?_ ?_
   ·rintro i x _ hi ⟨v2,rfl⟩
    obtain ⟨q,hq,rfl⟩:∃ q,ps[i]? = some q ∧ x = mdD q:=by
     rw [List.getElem?_map,Option.map_eq_some_iff] at hi
     obtain ⟨q,h1,h2⟩:=hi
     exact ⟨q,h1,h2.symm⟩
    have es:rwss (ps.take (i + 1)) = rwss (ps.take i) ++ rws q:=by
     obtain ⟨hi',e⟩:=List.getElem?_eq_some_iff.mp hq
     rw [rwss_flat,rwss_flat,List.take_succ_eq_append_getElem hi',e,List.map_append,List.flatten_append]; simp
    one_sign
    refine ⟨q,rfl,o4 q (List.mem_of_getElem? hq),?_⟩
    one_sign
    have p1:=part (i + 1)
    rw [es,List.length_append] at p1
    exact ⟨by simp; omega,_,by rw [es,List.map_append]⟩
   ·rintro _ ⟨v2,rfl⟩
    one_sign
    have e1:ps.take (ps.map mdD).length = ps:=by simp
    rw [e1]
    exact k
end
end
section
structure Gd (t:Tm):Prop where
 ok:MdOk 11 t
 ok2:MdOk 11 (sec t)
 nm:NmT t
 few:(allT t).length ≤ 2900
theorem Gd.sec {t:Tm} (h:Gd t):Gd (sec t):=⟨h.ok2,by rw [sec_sec]; exact h.ok2,nm_sec h.nm,Nat.le_trans (all_sec t) h.few⟩
theorem gd_of {t:Tm} (h:Mo 11 t) (hl:t.text.length ≤ 2400):Gd t:=⟨h.1,md_sec h.1 (by omega),nm_rd h.2,by have:=md_count h.1; omega⟩
theorem gd_zero:Gd (.mk "zero" "" [] false):=gd_of (zero_mo.mono (by omega)) (by decide +kernel)
def phRight (C:Addr):Ph:=fun args S Kt => ∃ t,args = [.val (tmD C t),.val (mdD t)] ∧ Gd t ∧ ∀ S',Kt (.bl true) S'
theorem kb_lb:kitB "int" "bool" = some false ∧ kitB "int" "int" = some true ∧ kitB "list" "list" = some true ∧ kitB "str" "str" = some true:=by decide
theorem pyDs_strs (ys:List Str):pyDs (ys.map GD.D.str) = some (ys.map PyData.str):=pyDs_map (fun _ => rfl) ys
theorem pyD_strs (ys:List Str):pyD (.lst (ys.map GD.D.str)) = some (.list (ys.map PyData.str)):=by rw [pyD,pyDs_strs]; rfl
theorem row_sok {n:Str} {m:Bool} (h:Nm n):PyData.strOk (Tm.text (.mk "row" n [] m)) = true:=by
 have s:=(row_signs (m:=m) h).1
 have l:=row_text (m:=m) h.len
 have b:∀ c ∈ tl signs,c < 55296:=by decide +kernel
 unfold PyData.strOk
 rw [← Array.all_toList]
 refine List.all_eq_true.mpr fun c hc => decide_eq_true ?_
 rcases s c hc with z | z
 ·exact Nat.lt_trans (b c z) (by decide)
 ·rw [z]; decide
theorem rows_sok {d:Nat} {t:Tm} (h:MdOk d t) (hn:NmT t):∀ x ∈ rws t,PyData.strOk x = true:=by
 intro x hx
 obtain ⟨u,hu,a,rfl⟩:=(rws_mem h x).mp hx
 have ou:=all_ok h u hu
 have nu:=all_nm hn u hu
 cases u with
 | mk k n ps m =>
  obtain rfl:k = "row" := a
  rw [NmT] at nu
  have e0:ps = []:=by
   cases d with
   | zero => exact ou.elim
   | succ d =>
    obtain ⟨_,_,_,_,h5⟩:=ou
    rcases h5 with ⟨_,h⟩ | ⟨h,_⟩ | ⟨h,_⟩ | ⟨h,_⟩ | ⟨h,_⟩
    ·exact h
    ·exact absurd h (by decide)
    ·exact absurd h (by decide)
    ·exact absurd h (by decide)
    ·rcases h with h | h <;> exact absurd h (by decide)
  subst e0
  exact row_sok (nu.1 rfl)
theorem shaped_strs (ys:List Str) (h:∀ x ∈ ys,PyData.strOk x = true):SeqAt.shaped (.list (ys.map PyData.str)) = true:=by
 simp [SeqAt.shaped,PyData.canLay0,layStrs ys h,PyData.depth,depStrs]
theorem eqv_strs2 (ys:List Str):PyData.eqv (.list (ys.map PyData.str)) (.list (ys.map PyData.str)) = true:=by
 rw [PyData.eqv,eqvStrs]
 simp
section
variable {P:Program} {w:World} {K:PySem.W.Frag} {mg:Str → Option Value} {base:Heap} {C aW:Addr}
theorem cRight (Df:Dfn K mg "_law_right" s_law_right) (T:Txt K mg C aW) (F:TrmF K C) (pDepth:GU.PrpM P w K mg base 23 C "depth" (spD K (phDepth C 11))) (mSecond:Met P w K mg base 15 C "second" (spD K (phSecond C 11))) (mRows:Met P w K mg base 43 C "row_names" (spD K (phRN C)))
  (cIs:Cal P w K mg base 15 "_law_is" (spD K (phIs C 11))) (cDepth:Cal P w K mg base 12 "_law_depth" (spD K (phDepM 11))) (cSecond:Cal P w K mg base 12 "_law_second" (spD K (phSecM 11))) (cRows:Cal P w K mg base 13 "_law_rows" (spD K (phRowsM 11))):Cal P w K mg base 44 "_law_right" (spD K (phRight C)):=by
 refine dcal Df sc_law_right (fun _ _ _ _ _ _ us hl => match us,hl with | [_,_],_ => rfl) (fun args S Kt h => by obtain ⟨t,rfl,_⟩:=h; rfl) (fun f cdv A outer s H E hr => ⟨_,(s_cons (s_set (i:=2) sc_law_right.nd rfl (Or.inl rfl) (GU.d_propM F.a_kind.1 pDepth hr (by one_item) (d_v (pv 0))))
   (s_cons (s_if (dt_w (dw_or (dt_val (d_isB (by rfl) T.n_isinstance (d_v (pv 2)) (pe_bltn (v := .ty "bool") (u := .type "bool") rfl T.n_bool (by decide +kernel) rfl))) (dw_or (dt_not (dt_val (d_isB (by rfl) T.n_isinstance (d_v (pv 2)) (pe_bltn (v := .ty "int") (u := .type "int") rfl T.n_int (by decide +kernel) rfl)))) (dw_or1 (dt_cmp op_ne l_ne (d_v (pv 2)) (d_call cDepth hr (by one_item) (by rfl) (a_v (d_v (pv 1)) a_nil)) (nomark _)))))) (s_one (s_ret d_bl)) s_nil)
   (s_cons (s_set (i:=3) sc_law_right.nd rfl (Or.inl rfl) (d_meth0 F.a_kind.1 mSecond hr (by one_item) (d_v (pv 0))))
   (s_cons (s_if (dt_w (dw_or (dt_not (dt_val (d_call cIs hr (by one_item) (by rfl) (a_v (d_v (pv 3)) (a_v (d_call cSecond hr (by one_item) (by rfl) (a_v (d_v (pv 1)) a_nil)) a_nil))))) (dw_or1 (dt_not (dt_val (d_call cIs hr (by one_item) (by rfl) (a_v (d_meth0 F.a_kind.1 mSecond hr (by one_item) (d_v (pv 3))) (a_v (d_call cSecond hr (by one_item) (by rfl) (a_v (d_v (pv 1)) a_nil)) a_nil)))))))) (s_one (s_ret d_bl)) s_nil)
   (s_cons (s_set (i:=4) sc_law_right.nd rfl (Or.inl rfl) (d_n (GU.n_sortU rfl (by rfl) T.n_sorted (by rfl) T.n_set (l_d (d_call cRows hr (by one_item) (by rfl) (a_v (d_v (pv 1)) a_nil))))))
   (s_cons (s_set (i:=5) sc_law_right.nd rfl (Or.inl rfl) (d_meth0 F.a_kind.1 mRows hr (by one_item) (d_v (pv 0))))
   (s_cons (GU.s_take (i:=5) (s_if (dt_w (dw_or (dt_not (dt_val (GU.d_isOwn (by rfl) T.n_isinstance (pv 5) (pe_bltn (v := .ty "list") (u := .type "list") rfl T.n_list (by decide +kernel) rfl)))) (dw_or (GU.dt_neY hr (GU.y_var (pv 5)) (pv 4) (nomark _)) (dw_or1 (dt_not (dt_val (d_all rfl (by rfl) T.n_all (l_n (GU.n_lend (i:=5) (n_lc (own:=[("_law_text_here",6)]) (by rfl) sc_law_right.nd (i_b (b_s (pv 5))) (blkOk_by (own:=[("_law_text_here",6)]) (N:=N_law_right) (sc:=defScope s_law_right) (by decide +kernel)) (fun _ _ _ _ _ => g_name (pg_name (i:=6) sc_law_right.nd rfl (Or.inl rfl))) (fun _ _ _ _ _ => ts_nil) (fun _ _ _ _ _ => d_isB (by rfl) T.n_isinstance (d_v (pv 6)) (pe_bltn (v := .ty "str") (u := .type "str") rfl T.n_str (by decide +kernel) rfl)) (by simp))))))))))) (s_one (s_ret d_bl)) s_nil))
   (s_cons (s_expr (d_app (pv 5) d_str))
   (s_one (s_ret (d_and (GU.d_eqY hr (GU.y_ref (d_meth0 F.a_kind.1 mRows hr (by one_item) (d_v (pv 0)))) (pv 4) (nomark _)) (d_one (d_call cIs hr (by one_item) (by rfl) (a_v (d_v (pv 0)) (a_v (d_v (pv 1)) a_nil))))))))))))))),fun args S Kt h => ?_⟩)
 obtain ⟨t,rfl,g,k⟩:=h
 obtain ⟨fs,e,e2,e3⟩:=tm_objs (C:=C) S t
 one_sign
 refine ⟨⟨fs,e⟩,t,rfl,g.ok,?_⟩
 simp? only [kb_lb]
 refine ⟨t,rfl,g.ok,?_⟩
 one_sign
 obtain ⟨gs,f1,f2,f3⟩:=tm_objs (C:=C) S (sec t)
 refine ⟨⟨fs,e,e2⟩,t,rfl,g.ok,t,rfl,g.ok,sec t,rfl,g.ok2,true,rfl,?_⟩
 rw [if_neg (by decide)]
 refine ⟨⟨gs,f1,f2⟩,sec t,rfl,g.ok2,t,rfl,g.ok,sec t,by rw [sec_sec],g.ok2,true,rfl,?_⟩
 rw [if_neg (by decide)]
 refine ⟨t,rfl,g.ok,_,rfl,rws t,rfl,?_,fun ys pm so => ?_⟩
 ·have h1:=rws_len t
  have h2:=g.few
  show (rws t).length + 1 < 4096
  omega
 have sd:=srt_due pm so
 refine ⟨⟨fs,e,e3⟩,t,rfl,g.ok,g.nm,g.few,fun i zs hi sz => ?_⟩
 obtain rfl:=srt_one sd sz
 have ly:ys.length ≤ 2900:=by
  rw [pm.length_eq]
  have h1:=GU.addN_len (xs:=rws t) (l:=[])
  have h2:=rws_len t
  have h3:=g.few
  simp at h1
  omega
 have p1:=pyDs_strs ys
 have p2:=shaped_strs ys fun x hx => rows_sok g.ok g.nm x ((sz.2.1 x).mp hx)
 have p3:=eqv_strs2 ys
 refine ⟨i,rfl,_,updS_same,?_⟩
 rw [if_neg (by decide)]
 refine ⟨_,p1,_,pyD_strs ys,p2,p2,?_⟩
 rw [p3]
 one_sign
 rw [if_neg (by decide)]
 refine lc_map ys GD.D.str (fun _ => .bl true) rfl rfl (fun jj x hx => ?_) ?_
 ·one_sign
  exact ⟨true,kb_s,step1 hx (Nat.le_trans ly (by decide)) rfl rfl rfl⟩
 ·one_sign
  have e5:((ys.map fun _ => true).all fun b => b) = true:=by simp
  obtain ⟨hs,q1,q2,q3⟩:=tm_objs (C:=C) (delS S i) t
  refine ⟨rfl,ys.map fun _ => true,by rw [List.map_map]; rfl,?_⟩
  rw [e5,if_neg (by decide)]
  refine ⟨by rw [List.length_map]; omega,⟨hs,q1,q3⟩,t,rfl,g.ok,g.nm,g.few,fun i2 zs hi2 sz2 => ?_⟩
  obtain rfl:=srt_one sd sz2
  refine ⟨i2,rfl,_,updS_same,_,p1,_,pyD_strs ys,p2,p2,?_⟩
  rw [p3,if_pos rfl]
  exact ⟨t,rfl,g.ok,k _⟩
end
end
section
section
variable {P:Program} {w:World} {K:PySem.W.Frag} {mg:Str → Option Value} {base:Heap} {C aW:Addr}
theorem cLaw (Df:Dfn K mg "law" s_law) (T:Txt K mg C aW) (cPen:Cal P w K mg base 1 "_law_pen" (spD K phPen)) (cDraw:Cal P w K mg base 1 "_law_draw" (spD K phDraw)) (cLot:Cal P w K mg base 3 "_law_lot" (spD K phLot)) (cTerm:Cal P w K mg base 5 "_law_term" (spD K phTermM))
  (cBuilt:Cal P w K mg base 17 "_law_built" (spD K (phBuilt C 11))) (cSecond:Cal P w K mg base 12 "_law_second" (spD K (phSecM 11))) (cRight:Cal P w K mg base 44 "_law_right" (spD K (phRight C))):Cal P w K mg base 46 "law" (spD K phLaw):=by
 refine dcal Df sc_law (fun _ _ _ _ _ _ us hl => match us,hl with | [_],_ => rfl) (fun args S Kt h => by obtain ⟨ns,rfl,_⟩:=h; rfl) (fun f cdv A outer s H E hr => ⟨_,(s_cons (s_set (i:=1) sc_law.nd rfl (Or.inr rfl) (d_call cPen hr (by one_item) (by rfl) (a_v (d_v (pv 0)) a_nil)))
   (s_cons (s_set (i:=2) sc_law.nd rfl (Or.inr rfl) (d_call cLot hr (by one_item) (by rfl) (a_v (d_v (pv 1)) a_nil)))
   (s_cons (s_setLc (i:=3) (own:=[("_law_k",4)]) (by rfl) sc_law.nd rfl rfl (sw_true rfl rfl rfl (by decide +kernel)) (i_rng (by rfl) T.n_range (a_v d_int a_nil)) (blkOk_by (own:=[("_law_k",4)]) (N:=N_law) (sc:=defScope s_law) (by decide +kernel)) (fun _ _ _ _ _ => g_name (pg_name (i:=4) sc_law.nd rfl (Or.inl rfl))) (fun _ _ _ _ _ => ts_nil) (fun _ _ _ _ _ => d_call cTerm hr (by one_item) (by rfl) (a_v (d_v (pv 1)) (a_v (d_v (pv 2)) a_nil))) (by simp))
   (s_cons (s_set (i:=3) sc_law.nd rfl (Or.inl rfl) (d_n (n_cat (d_v (pv 3)) (d_n (n_lst (a_v (d_call cSecond hr (by one_item) (by rfl) (a_v (d_ix (d_v (pv 3)) (d_call cDraw hr (by one_item) (by rfl) (a_v (d_v (pv 1)) (a_v d_int a_nil))) (fun _ _ => rfl)) a_nil)) (a_v (d_tup (a_v d_str (a_v d_str (a_v (d_tup a_nil) (a_v d_bl a_nil))))) a_nil)))))))
   (s_one (s_ret (d_all rfl (by rfl) T.n_all (l_n (n_lc (own:=[("_law_model",5)]) (by rfl) sc_law.nd (i_b (b_s (pv 3))) (blkOk_by (own:=[("_law_model",5)]) (N:=N_law) (sc:=defScope s_law) (by decide +kernel)) (fun _ _ _ _ _ => g_name (pg_name (i:=5) sc_law.nd rfl (Or.inl rfl))) (fun _ _ _ _ _ => ts_nil) (fun _ _ _ _ _ => d_call cRight hr (by one_item) (by rfl) (a_v (d_call cBuilt hr (by one_item) (by rfl) (a_v (d_v (pv 5)) a_nil)) (a_v (d_v (pv 5)) a_nil))) (by simp)))))))))),fun args S Kt h => ?_⟩)
 obtain ⟨ns,rfl,hn,k⟩:=h
 one_sign
 refine ⟨ns,rfl,hn,fun p c1 hp pc1 => ?_⟩
 one_sign
 refine ⟨p,c1,_,rfl,updS_same,pc1,by omega,fun l a b c d c2 lt pc2 => ?_⟩
 have lt0:=lt
 obtain rfl:=lt.e
 one_sign
 have e6:Int.toNat 6 = 6:=rfl
 rw [e6]
 let I:Nat → List GD.D → DS → Prop:=fun i acc δ => ∃ (ts:List Tm) (c':Cell) (S':Sto),acc = ts.map mdD ∧ (∀ t ∈ ts,Gd t) ∧ wipeD δ.vs [4] = [.val (.kls (ns.map GD.D.int)),.val (.ref p),.val (.lst [nms a,nms b,nms c,nms d]),.no,.no,.no] ∧ δ.S = S' ∧ S' p = some c' ∧ PenC c' (40 + 300 * i)
 refine lc_inv I rfl ⟨[],c2,_,rfl,by simp,rfl,rfl,updS_same,pc2.le (by omega)⟩ ?_ ?_
 ·rintro i x acc δ hi la ⟨ts,c3,S0,rfl,hg,e1,e2,hS0,pc3⟩
  obtain ⟨hi',rfl⟩:=rng_at hi
  rw [e1,e2]
  one_sign
  refine ⟨p,c3,_,_,a,b,c,d,rfl,lt0,hS0,pc3,by omega,fun t c4 ok hl pc4 => ?_⟩
  one_sign
  rw [List.length_map] at la
  refine ⟨by simp; omega,by simp; omega,ts ++ [t],c4,_,by simp,fun u hu => ?_,rfl,rfl,updS_same,pc4.le (by omega)⟩
  rcases List.mem_append.mp hu with q | q
  ·exact hg u q
  ·rw [List.mem_singleton.mp q]; exact gd_of ok hl
 ·rintro acc δ la ⟨ts,c3,S0,rfl,hg,e1,e2,hS0,pc3⟩
  rw [e1,e2]
  have l6:ts.length = 6:=by rw [List.length_map] at la; rw [la]; rfl
  one_sign
  refine ⟨p,c3,6,_,rfl,hS0,pc3,by decide,by decide,by decide,fun d1 c4 h1 h2 pc4 => ?_⟩
  one_sign
  obtain ⟨j,rfl⟩:=Int.eq_ofNat_of_zero_le h1
  have hj:j < ts.length:=by omega
  have g1:=hg _ (List.getElem_mem hj)
  refine ⟨ts[j],atI_nat (List.getElem?_eq_getElem hj),ts[j],rfl,g1.ok,by simp; omega,?_⟩
  have em:ts.map mdD ++ [mdD (sec ts[j]),.tup [.str "zero",.str "",.tup [],.bl false]] = (ts ++ [sec ts[j],.mk "zero" "" [] false]).map mdD:=by
   rw [List.map_append,List.map_cons,List.map_cons,List.map_nil,mdD_eq "zero"]; rfl
  rw [em]
  have hall:∀ u ∈ ts ++ [sec ts[j],.mk "zero" "" [] false],Gd u:=fun u hu => by
   rcases List.mem_append.mp hu with q | q
   ·exact hg u q
   ·simp only [List.mem_cons,List.not_mem_nil,or_false] at q
    rcases q with rfl | rfl
    ·exact g1.sec
    ·exact gd_zero
  have l8:(ts ++ [sec ts[j],.mk "zero" "" [] false]).length = 8:=by simp; omega
  generalize ts ++ [sec ts[j],.mk "zero" "" [] false] = us at hall l8 ⊢
  let J:Nat → List GD.D → DS → Prop:=fun i acc δ => acc = (List.range i).map (fun _ => GD.D.bl true) ∧ wipeD δ.vs [5] = [.val (.kls (ns.map GD.D.int)),.val (.ref p),.val (.lst [nms a,nms b,nms c,nms d]),.val (.lst (us.map mdD)),.no,.no]
  refine lc_inv J rfl ⟨rfl,rfl⟩ ?_ ?_
  ·rintro i x acc δ hi la2 ⟨rfl,q1⟩
   obtain ⟨u,hu,rfl⟩:∃ u,us[i]? = some u ∧ x = mdD u:=by
    rw [List.getElem?_map,Option.map_eq_some_iff] at hi
    obtain ⟨q,h1,h2⟩:=hi
    exact ⟨q,h1,h2.symm⟩
   have gu:=hall u (List.mem_of_getElem? hu)
   have li:i < us.length:=(List.getElem?_eq_some_iff.mp hu).1
   rw [q1]
   one_sign
   refine ⟨u,rfl,gu.ok,?_⟩
   one_sign
   refine ⟨u,rfl,gu,fun S' => ⟨by simp; omega,by simp,?_,rfl⟩⟩
   rw [List.range_succ,List.map_append]; rfl
  ·rintro acc δ la2 ⟨rfl,q1⟩
   refine ⟨(List.range (us.map mdD).length).map fun _ => true,by rw [List.map_map]; rfl,?_⟩
   have e5:(((List.range (us.map mdD).length).map fun _ => true).all fun b => b) = true:=by simp
   rw [e5]
   exact k _
end
end
end K02
end
namespace K02
open PySem L2 GB G1 GD
section
theorem kit_self {K:PySem.W.Frag} {C:Addr}:PySem.W.kitOne K (.ref C) (.ref C) = some true:=by
 unfold PySem.W.kitOne
 rw [if_pos (beq_self_eq_true _)]
theorem kit_no {K:PySem.W.Frag} {C:Addr} {t:Value} (h1:PySem.W.isClsIn K C = true) (h2:PySem.W.typeIn K (.ref C) = some (.type "type")) (h3:PySem.W.subIn K t (.ref C) = some false) (ne:(t == .ref C) = false):PySem.W.kitOne K t (.ref C) = some false:=by
 unfold PySem.W.kitOne
 rw [if_neg (by rw [ne]; simp)]
 show (if ((PySem.W.clsIn K C).isSome && PySem.W.typeIn K (.ref C) == some (.type "type")) = true then PySem.W.subIn K t (.ref C) else none) = some false
 have h1':(PySem.W.clsIn K C).isSome = true:=h1
 rw [if_pos (by rw [h1',h2]; simp),h3]
def later:Str := "abcdefghijklmnopqrstuvwxyz0123456789_"
theorem later_eq:later = signs:=by decide +kernel
theorem repStrs {K:PySem.W.Frag} {F:Hp} {R:List Addr}:∀ ts:List Str,RepAll K F R (ts.map V.str) (ts.map GD.D.str)
 | [] => .nil
 | t :: ts => .cons (.str t) (repStrs ts)
theorem all_mk {P:Program} {w:World} {K:PySem.W.Frag} {h base:Heap} {mg:Str → Option Value} (X:K.In h) (G:h.Ns mainGlobals mg) {CT fWr fZ fFT fRU fxpen fxdraw fxwords fxnames fxtext fxlot fxrow fxcolumn fxvalue fxterm fxapplied fxbuilt fxis fxdepth fxsecond fxrows fxright fLaw fEQ fST fSU fSE fRN fPD fdr Tdr fdc Tdc fdp Tdp fI TI:Addr} {odWr anWr odZ anZ odFT anFT odRU anRU odxpen anxpen odxdraw anxdraw odxwords anxwords odxnames anxnames odxtext anxtext odxlot anxlot odxrow anxrow odxcolumn anxcolumn odxvalue anxvalue odxterm anxterm odxapplied anxapplied odxbuilt anxbuilt odxis anxis odxdepth anxdepth odxsecond anxsecond odxrows anxrows odxright anxright odLaw anLaw odEQ anEQ odST anST odSU anSU odSE anSE odRN anRN odPD anPD oddr andr oddc andc oddp andp odI anI:Option Addr} {slWr slZ slFT slRU slxpen slxdraw slxwords slxnames slxtext slxlot slxrow slxcolumn slxvalue slxterm slxapplied slxbuilt slxis slxdepth slxsecond slxrows slxright slLaw slEQ slST slSU slSE slRN slPD sldr sldc sldp slI:Array (Option Value)} {ocWr kVWr dcWr pmWr cdWr ctWr ocZ kVZ dcZ pmZ cdZ ctZ ocFT kVFT dcFT pmFT cdFT ctFT ocRU kVRU dcRU pmRU cdRU ctRU ocxpen kVxpen dcxpen pmxpen cdxpen ctxpen ocxdraw kVxdraw dcxdraw pmxdraw cdxdraw ctxdraw ocxwords kVxwords dcxwords pmxwords cdxwords ctxwords ocxnames kVxnames dcxnames pmxnames cdxnames ctxnames ocxtext kVxtext dcxtext pmxtext cdxtext ctxtext ocxlot kVxlot dcxlot pmxlot cdxlot ctxlot ocxrow kVxrow dcxrow pmxrow cdxrow ctxrow ocxcolumn kVxcolumn dcxcolumn pmxcolumn cdxcolumn ctxcolumn ocxvalue kVxvalue dcxvalue pmxvalue cdxvalue ctxvalue ocxterm kVxterm dcxterm pmxterm cdxterm ctxterm ocxapplied kVxapplied dcxapplied pmxapplied cdxapplied ctxapplied ocxbuilt kVxbuilt dcxbuilt pmxbuilt cdxbuilt ctxbuilt ocxis kVxis dcxis pmxis cdxis ctxis ocxdepth kVxdepth dcxdepth pmxdepth cdxdepth ctxdepth ocxsecond kVxsecond dcxsecond pmxsecond cdxsecond ctxsecond ocxrows kVxrows dcxrows pmxrows cdxrows ctxrows ocxright kVxright dcxright pmxright cdxright ctxright ocLaw kVLaw dcLaw pmLaw cdLaw ctLaw ocEQ kVEQ dcEQ pmEQ cdEQ ctEQ ocST kVST dcST pmST cdST ctST ocSU kVSU dcSU pmSU cdSU ctSU ocSE kVSE dcSE pmSE cdSE ctSE ocRN kVRN dcRN pmRN cdRN ctRN ocPD kVPD dcPD pmPD cdPD ctPD ocdr kVdr dcdr pmdr cddr ctdr ocdc kVdc dcdc pmdc cddc ctdc ocdp kVdp dcdp pmdp cddp ctdp ocI kVI dcI pmI cdI ctI:Value} {pD:Addr} {rsP:List Value} {aW:Addr} {od_aW:Option Addr} {it_aW:Array Value} {nn_aW:Nat} {sl_aW:Array (Option Value)} {tF tL tS tP:Tok}
  (aCT:PySem.W.nsIn K mainGlobals "Term" = some (some (.ref CT))) (pgT:PySem.W.plainGet K CT Str.empty = true) (hdT:PySem.W.hasDictIn K CT = true) (poT:PySem.W.plainOver K CT = true) (saT:PySem.W.findIn K (.ref CT) "__setattr__" = some (some (.builtin "object.__setattr__"))) (mkT:PySem.W.makesIn K CT = true) (kcT:PySem.W.keepIn K (.ref CT) = true)
  (aWr:PySem.W.nsIn K mainGlobals "written" = some (some (.ref fWr)))
  (lWr:K.lookup fWr = some ⟨ocWr,odWr,.func (PySem.W.fnOf "written" "written" (defArgs s_written) (defBody s_written) (defScope s_written) .none kVWr dcWr pmWr anWr cdWr ctWr),slWr⟩) (cqWr:PySem.W.codeIn K cdWr "written" = true) (kWr:PySem.W.keepIn K (.ref fWr) = true)
  (aZ:PySem.W.nsIn K mainGlobals "zero_term" = some (some (.ref fZ)))
  (lZ:K.lookup fZ = some ⟨ocZ,odZ,.func (PySem.W.fnOf "zero_term" "zero_term" (defArgs s_zero_term) (defBody s_zero_term) (defScope s_zero_term) .none kVZ dcZ pmZ anZ cdZ ctZ),slZ⟩) (cqZ:PySem.W.codeIn K cdZ "zero_term" = true) (kZ:PySem.W.keepIn K (.ref fZ) = true)
  (aFT:PySem.W.nsIn K mainGlobals "function_term" = some (some (.ref fFT)))
  (lFT:K.lookup fFT = some ⟨ocFT,odFT,.func (PySem.W.fnOf "function_term" "function_term" (defArgs s_function_term) (defBody s_function_term) (defScope s_function_term) .none kVFT dcFT pmFT anFT cdFT ctFT),slFT⟩) (cqFT:PySem.W.codeIn K cdFT "function_term" = true) (kFT:PySem.W.keepIn K (.ref fFT) = true)
  (aRU:PySem.W.nsIn K mainGlobals "rule_term" = some (some (.ref fRU)))
  (lRU:K.lookup fRU = some ⟨ocRU,odRU,.func (PySem.W.fnOf "rule_term" "rule_term" (defArgs s_rule_term) (defBody s_rule_term) (defScope s_rule_term) .none kVRU dcRU pmRU anRU cdRU ctRU),slRU⟩) (cqRU:PySem.W.codeIn K cdRU "rule_term" = true) (kRU:PySem.W.keepIn K (.ref fRU) = true)
  (axpen:PySem.W.nsIn K mainGlobals "_law_pen" = some (some (.ref fxpen)))
  (lxpen:K.lookup fxpen = some ⟨ocxpen,odxpen,.func (PySem.W.fnOf "_law_pen" "_law_pen" (defArgs s_law_pen) (defBody s_law_pen) (defScope s_law_pen) .none kVxpen dcxpen pmxpen anxpen cdxpen ctxpen),slxpen⟩) (cqxpen:PySem.W.codeIn K cdxpen "_law_pen" = true) (kxpen:PySem.W.keepIn K (.ref fxpen) = true)
  (axdraw:PySem.W.nsIn K mainGlobals "_law_draw" = some (some (.ref fxdraw)))
  (lxdraw:K.lookup fxdraw = some ⟨ocxdraw,odxdraw,.func (PySem.W.fnOf "_law_draw" "_law_draw" (defArgs s_law_draw) (defBody s_law_draw) (defScope s_law_draw) .none kVxdraw dcxdraw pmxdraw anxdraw cdxdraw ctxdraw),slxdraw⟩) (cqxdraw:PySem.W.codeIn K cdxdraw "_law_draw" = true) (kxdraw:PySem.W.keepIn K (.ref fxdraw) = true)
  (axwords:PySem.W.nsIn K mainGlobals "_law_words" = some (some (.ref fxwords)))
  (lxwords:K.lookup fxwords = some ⟨ocxwords,odxwords,.func (PySem.W.fnOf "_law_words" "_law_words" (defArgs s_law_words) (defBody s_law_words) (defScope s_law_words) .none kVxwords dcxwords pmxwords anxwords cdxwords ctxwords),slxwords⟩) (cqxwords:PySem.W.codeIn K cdxwords "_law_words" = true) (kxwords:PySem.W.keepIn K (.ref fxwords) = true)
  (axnames:PySem.W.nsIn K mainGlobals "_law_names" = some (some (.ref fxnames)))
  (lxnames:K.lookup fxnames = some ⟨ocxnames,odxnames,.func (PySem.W.fnOf "_law_names" "_law_names" (defArgs s_law_names) (defBody s_law_names) (defScope s_law_names) .none kVxnames dcxnames pmxnames anxnames cdxnames ctxnames),slxnames⟩) (cqxnames:PySem.W.codeIn K cdxnames "_law_names" = true) (kxnames:PySem.W.keepIn K (.ref fxnames) = true)
  (axtext:PySem.W.nsIn K mainGlobals "_law_text" = some (some (.ref fxtext)))
  (lxtext:K.lookup fxtext = some ⟨ocxtext,odxtext,.func (PySem.W.fnOf "_law_text" "_law_text" (defArgs s_law_text) (defBody s_law_text) (defScope s_law_text) .none kVxtext dcxtext pmxtext anxtext cdxtext ctxtext),slxtext⟩) (cqxtext:PySem.W.codeIn K cdxtext "_law_text" = true) (kxtext:PySem.W.keepIn K (.ref fxtext) = true)
  (axlot:PySem.W.nsIn K mainGlobals "_law_lot" = some (some (.ref fxlot)))
  (lxlot:K.lookup fxlot = some ⟨ocxlot,odxlot,.func (PySem.W.fnOf "_law_lot" "_law_lot" (defArgs s_law_lot) (defBody s_law_lot) (defScope s_law_lot) .none kVxlot dcxlot pmxlot anxlot cdxlot ctxlot),slxlot⟩) (cqxlot:PySem.W.codeIn K cdxlot "_law_lot" = true) (kxlot:PySem.W.keepIn K (.ref fxlot) = true)
  (axrow:PySem.W.nsIn K mainGlobals "_law_row" = some (some (.ref fxrow)))
  (lxrow:K.lookup fxrow = some ⟨ocxrow,odxrow,.func (PySem.W.fnOf "_law_row" "_law_row" (defArgs s_law_row) (defBody s_law_row) (defScope s_law_row) .none kVxrow dcxrow pmxrow anxrow cdxrow ctxrow),slxrow⟩) (cqxrow:PySem.W.codeIn K cdxrow "_law_row" = true) (kxrow:PySem.W.keepIn K (.ref fxrow) = true)
  (axcolumn:PySem.W.nsIn K mainGlobals "_law_column" = some (some (.ref fxcolumn)))
  (lxcolumn:K.lookup fxcolumn = some ⟨ocxcolumn,odxcolumn,.func (PySem.W.fnOf "_law_column" "_law_column" (defArgs s_law_column) (defBody s_law_column) (defScope s_law_column) .none kVxcolumn dcxcolumn pmxcolumn anxcolumn cdxcolumn ctxcolumn),slxcolumn⟩) (cqxcolumn:PySem.W.codeIn K cdxcolumn "_law_column" = true) (kxcolumn:PySem.W.keepIn K (.ref fxcolumn) = true)
  (axvalue:PySem.W.nsIn K mainGlobals "_law_value" = some (some (.ref fxvalue)))
  (lxvalue:K.lookup fxvalue = some ⟨ocxvalue,odxvalue,.func (PySem.W.fnOf "_law_value" "_law_value" (defArgs s_law_value) (defBody s_law_value) (defScope s_law_value) .none kVxvalue dcxvalue pmxvalue anxvalue cdxvalue ctxvalue),slxvalue⟩) (cqxvalue:PySem.W.codeIn K cdxvalue "_law_value" = true) (kxvalue:PySem.W.keepIn K (.ref fxvalue) = true)
  (axterm:PySem.W.nsIn K mainGlobals "_law_term" = some (some (.ref fxterm)))
  (lxterm:K.lookup fxterm = some ⟨ocxterm,odxterm,.func (PySem.W.fnOf "_law_term" "_law_term" (defArgs s_law_term) (defBody s_law_term) (defScope s_law_term) .none kVxterm dcxterm pmxterm anxterm cdxterm ctxterm),slxterm⟩) (cqxterm:PySem.W.codeIn K cdxterm "_law_term" = true) (kxterm:PySem.W.keepIn K (.ref fxterm) = true)
  (axapplied:PySem.W.nsIn K mainGlobals "_law_applied" = some (some (.ref fxapplied)))
  (lxapplied:K.lookup fxapplied = some ⟨ocxapplied,odxapplied,.func (PySem.W.fnOf "_law_applied" "_law_applied" (defArgs s_law_applied) (defBody s_law_applied) (defScope s_law_applied) .none kVxapplied dcxapplied pmxapplied anxapplied cdxapplied ctxapplied),slxapplied⟩) (cqxapplied:PySem.W.codeIn K cdxapplied "_law_applied" = true) (kxapplied:PySem.W.keepIn K (.ref fxapplied) = true)
  (axbuilt:PySem.W.nsIn K mainGlobals "_law_built" = some (some (.ref fxbuilt)))
  (lxbuilt:K.lookup fxbuilt = some ⟨ocxbuilt,odxbuilt,.func (PySem.W.fnOf "_law_built" "_law_built" (defArgs s_law_built) (defBody s_law_built) (defScope s_law_built) .none kVxbuilt dcxbuilt pmxbuilt anxbuilt cdxbuilt ctxbuilt),slxbuilt⟩) (cqxbuilt:PySem.W.codeIn K cdxbuilt "_law_built" = true) (kxbuilt:PySem.W.keepIn K (.ref fxbuilt) = true)
  (axis:PySem.W.nsIn K mainGlobals "_law_is" = some (some (.ref fxis)))
  (lxis:K.lookup fxis = some ⟨ocxis,odxis,.func (PySem.W.fnOf "_law_is" "_law_is" (defArgs s_law_is) (defBody s_law_is) (defScope s_law_is) .none kVxis dcxis pmxis anxis cdxis ctxis),slxis⟩) (cqxis:PySem.W.codeIn K cdxis "_law_is" = true) (kxis:PySem.W.keepIn K (.ref fxis) = true)
  (axdepth:PySem.W.nsIn K mainGlobals "_law_depth" = some (some (.ref fxdepth)))
  (lxdepth:K.lookup fxdepth = some ⟨ocxdepth,odxdepth,.func (PySem.W.fnOf "_law_depth" "_law_depth" (defArgs s_law_depth) (defBody s_law_depth) (defScope s_law_depth) .none kVxdepth dcxdepth pmxdepth anxdepth cdxdepth ctxdepth),slxdepth⟩) (cqxdepth:PySem.W.codeIn K cdxdepth "_law_depth" = true) (kxdepth:PySem.W.keepIn K (.ref fxdepth) = true)
  (axsecond:PySem.W.nsIn K mainGlobals "_law_second" = some (some (.ref fxsecond)))
  (lxsecond:K.lookup fxsecond = some ⟨ocxsecond,odxsecond,.func (PySem.W.fnOf "_law_second" "_law_second" (defArgs s_law_second) (defBody s_law_second) (defScope s_law_second) .none kVxsecond dcxsecond pmxsecond anxsecond cdxsecond ctxsecond),slxsecond⟩) (cqxsecond:PySem.W.codeIn K cdxsecond "_law_second" = true) (kxsecond:PySem.W.keepIn K (.ref fxsecond) = true)
  (axrows:PySem.W.nsIn K mainGlobals "_law_rows" = some (some (.ref fxrows)))
  (lxrows:K.lookup fxrows = some ⟨ocxrows,odxrows,.func (PySem.W.fnOf "_law_rows" "_law_rows" (defArgs s_law_rows) (defBody s_law_rows) (defScope s_law_rows) .none kVxrows dcxrows pmxrows anxrows cdxrows ctxrows),slxrows⟩) (cqxrows:PySem.W.codeIn K cdxrows "_law_rows" = true) (kxrows:PySem.W.keepIn K (.ref fxrows) = true)
  (axright:PySem.W.nsIn K mainGlobals "_law_right" = some (some (.ref fxright)))
  (lxright:K.lookup fxright = some ⟨ocxright,odxright,.func (PySem.W.fnOf "_law_right" "_law_right" (defArgs s_law_right) (defBody s_law_right) (defScope s_law_right) .none kVxright dcxright pmxright anxright cdxright ctxright),slxright⟩) (cqxright:PySem.W.codeIn K cdxright "_law_right" = true) (kxright:PySem.W.keepIn K (.ref fxright) = true)
  (aLaw:PySem.W.nsIn K mainGlobals "law" = some (some (.ref fLaw)))
  (lLaw:K.lookup fLaw = some ⟨ocLaw,odLaw,.func (PySem.W.fnOf "law" "law" (defArgs s_law) (defBody s_law) (defScope s_law) .none kVLaw dcLaw pmLaw anLaw cdLaw ctLaw),slLaw⟩) (cqLaw:PySem.W.codeIn K cdLaw "law" = true) (kLaw:PySem.W.keepIn K (.ref fLaw) = true)
  (aEQ:PySem.W.findIn K (.ref CT) "__eq__" = some (some (.ref fEQ))) (iEQ:PySem.W.isFn K (.ref fEQ) = true)
  (lEQ:K.lookup fEQ = some ⟨ocEQ,odEQ,.func (PySem.W.fnOf "__eq__" "Term.__eq__" (defArgs s_Term_eq) (defBody s_Term_eq) (defScope s_Term_eq) .none kVEQ dcEQ pmEQ anEQ cdEQ ctEQ),slEQ⟩) (cqEQ:PySem.W.codeIn K cdEQ "Term.__eq__" = true) (kEQ:PySem.W.keepIn K (.ref fEQ) = true)
  (aST:PySem.W.findIn K (.ref CT) "__str__" = some (some (.ref fST))) (iST:PySem.W.isFn K (.ref fST) = true)
  (lST:K.lookup fST = some ⟨ocST,odST,.func (PySem.W.fnOf "__str__" "Term.__str__" (defArgs s_Term_str) (defBody s_Term_str) (defScope s_Term_str) .none kVST dcST pmST anST cdST ctST),slST⟩) (cqST:PySem.W.codeIn K cdST "Term.__str__" = true) (kST:PySem.W.keepIn K (.ref fST) = true)
  (aSU:PySem.W.findIn K (.ref CT) "subterms" = some (some (.ref fSU))) (iSU:PySem.W.isFn K (.ref fSU) = true)
  (lSU:K.lookup fSU = some ⟨ocSU,odSU,.func (PySem.W.fnOf "subterms" "Term.subterms" (defArgs GG.s_sub) (defBody GG.s_sub) (defScope GG.s_sub) .none kVSU dcSU pmSU anSU cdSU ctSU),slSU⟩) (cqSU:PySem.W.codeIn K cdSU "Term.subterms" = true) (kSU:PySem.W.keepIn K (.ref fSU) = true)
  (aSE:PySem.W.findIn K (.ref CT) "second" = some (some (.ref fSE))) (iSE:PySem.W.isFn K (.ref fSE) = true)
  (lSE:K.lookup fSE = some ⟨ocSE,odSE,.func (PySem.W.fnOf "second" "Term.second" (defArgs s_Term_second) (defBody s_Term_second) (defScope s_Term_second) .none kVSE dcSE pmSE anSE cdSE ctSE),slSE⟩) (cqSE:PySem.W.codeIn K cdSE "Term.second" = true) (kSE:PySem.W.keepIn K (.ref fSE) = true)
  (aRN:PySem.W.findIn K (.ref CT) "row_names" = some (some (.ref fRN))) (iRN:PySem.W.isFn K (.ref fRN) = true)
  (lRN:K.lookup fRN = some ⟨ocRN,odRN,.func (PySem.W.fnOf "row_names" "Term.row_names" (defArgs s_Term_row_names) (defBody s_Term_row_names) (defScope s_Term_row_names) .none kVRN dcRN pmRN anRN cdRN ctRN),slRN⟩) (cqRN:PySem.W.codeIn K cdRN "Term.row_names" = true) (kRN:PySem.W.keepIn K (.ref fRN) = true)
  (aPD:PySem.W.findIn K (.ref CT) "depth" = some (some (.ref pD))) (iPD:PySem.W.specialIn K (.ref pD) "__get__" = some (some (.builtin "property.__get__")))
  (lPD:K.lookup fPD = some ⟨ocPD,odPD,.func (PySem.W.fnOf "depth" "Term.depth" (defArgs s_Term_depth) (defBody s_Term_depth) (defScope s_Term_depth) .none kVPD dcPD pmPD anPD cdPD ctPD),slPD⟩) (cqPD:PySem.W.codeIn K cdPD "Term.depth" = true) (kPD:PySem.W.keepIn K (.ref fPD) = true)
  (adr:PySem.W.nsIn K mainGlobals "row_term" = some (some (.ref fdr)))
  (ldr:K.lookup fdr = some ⟨ocdr,oddr,.func (PySem.W.fnOf "row_term" "row_term" (defArgs s_row_term) (defBody s_row_term) (defScope s_row_term) (.ref Tdr) kVdr dcdr pmdr andr cddr ctdr),sldr⟩) (cqdr:PySem.W.codeIn K cddr "row_term" = true) (kdr:PySem.W.keepIn K (.ref fdr) = true)
  {cTdr:Value} {oTdr:Option Addr} {iTdr:Array Value} {nTdr:Nat} {sTdr:Array (Option Value)} (lTdr:K.lookup Tdr = some ⟨cTdr,oTdr,.seq iTdr nTdr,sTdr⟩)
  (eTdr:iTdr.toList.map absV = ([.bl false]:List V).map some)
  (adc:PySem.W.nsIn K mainGlobals "column_term" = some (some (.ref fdc)))
  (ldc:K.lookup fdc = some ⟨ocdc,oddc,.func (PySem.W.fnOf "column_term" "column_term" (defArgs s_column_term) (defBody s_column_term) (defScope s_column_term) (.ref Tdc) kVdc dcdc pmdc andc cddc ctdc),sldc⟩) (cqdc:PySem.W.codeIn K cddc "column_term" = true) (kdc:PySem.W.keepIn K (.ref fdc) = true)
  {cTdc:Value} {oTdc:Option Addr} {iTdc:Array Value} {nTdc:Nat} {sTdc:Array (Option Value)} (lTdc:K.lookup Tdc = some ⟨cTdc,oTdc,.seq iTdc nTdc,sTdc⟩)
  (eTdc:iTdc.toList.map absV = ([.bl false]:List V).map some)
  (adp:PySem.W.nsIn K mainGlobals "place_term" = some (some (.ref fdp)))
  (ldp:K.lookup fdp = some ⟨ocdp,oddp,.func (PySem.W.fnOf "place_term" "place_term" (defArgs s_place_term) (defBody s_place_term) (defScope s_place_term) (.ref Tdp) kVdp dcdp pmdp andp cddp ctdp),sldp⟩) (cqdp:PySem.W.codeIn K cddp "place_term" = true) (kdp:PySem.W.keepIn K (.ref fdp) = true)
  {cTdp:Value} {oTdp:Option Addr} {iTdp:Array Value} {nTdp:Nat} {sTdp:Array (Option Value)} (lTdp:K.lookup Tdp = some ⟨cTdp,oTdp,.seq iTdp nTdp,sTdp⟩)
  (eTdp:iTdp.toList.map absV = ([.bl false]:List V).map some)
  (aI:PySem.W.findIn K (.ref CT) "__init__" = some (some (.ref fI))) (iI:PySem.W.isFn K (.ref fI) = true)
  (lI:K.lookup fI = some ⟨ocI,odI,.func (PySem.W.fnOf "__init__" "Term.__init__" (defArgs s_Term_init) (defBody s_Term_init) (defScope s_Term_init) (.ref TI) kVI dcI pmI anI cdI ctI),slI⟩) (cqI:PySem.W.codeIn K cdI "Term.__init__" = true) (kI:PySem.W.keepIn K (.ref fI) = true)
  {cTI:Value} {oTI:Option Addr} {iTI:Array Value} {nTI:Nat} {sTI:Array (Option Value)} (lTI:K.lookup TI = some ⟨cTI,oTI,.seq iTI nTI,sTI⟩)
  (eTI:iTI.toList.map absV = ([.bl false]:List V).map some)
  (n1:PySem.W.findIn K (.ref CT) "kind" = some none)
  (n2:PySem.W.findIn K (.ref CT) "name" = some none)
  (n3:PySem.W.findIn K (.ref CT) "parts" = some none)
  (n4:PySem.W.findIn K (.ref CT) "marked" = some none)
  (n5:PySem.W.findIn K (.ref CT) "text" = some none)
  (z_int:PySem.W.nsIn K mainGlobals "int" = some none)
  (z_len:PySem.W.nsIn K mainGlobals "len" = some none)
  (z_abs:PySem.W.nsIn K mainGlobals "abs" = some none)
  (z_list:PySem.W.nsIn K mainGlobals "list" = some none)
  (z_range:PySem.W.nsIn K mainGlobals "range" = some none)
  (z_isinstance:PySem.W.nsIn K mainGlobals "isinstance" = some none)
  (z_all:PySem.W.nsIn K mainGlobals "all" = some none)
  (z_any:PySem.W.nsIn K mainGlobals "any" = some none)
  (z_enumerate:PySem.W.nsIn K mainGlobals "enumerate" = some none)
  (z_str:PySem.W.nsIn K mainGlobals "str" = some none)
  (z_tuple:PySem.W.nsIn K mainGlobals "tuple" = some none)
  (z_bool:PySem.W.nsIn K mainGlobals "bool" = some none)
  (z_zip:PySem.W.nsIn K mainGlobals "zip" = some none)
  (z_max:PySem.W.nsIn K mainGlobals "max" = some none)
  (z_sorted:PySem.W.nsIn K mainGlobals "sorted" = some none)
  (z_set:PySem.W.nsIn K mainGlobals "set" = some none)
  (y_ha:PySem.W.findIn K (.ref CT) "__class__" = some (some (.builtin "object.__class__")))
  (y_hn:PySem.W.specialIn K (.builtin "object.__class__") "__get__" = some (some (.builtin "getset_descriptor.__get__")))
  (y_tk:PySem.W.takesIn K (.builtin "object.__class__") = some true)
  (y_hm:PySem.W.mroIn K CT (.type "object") = some true)
  (y_ic:PySem.W.isClsIn K CT = true)
  (y_ty:PySem.W.typeIn K (.ref CT) = some (.type "type"))
  (y_t0:PySem.W.subIn K (.type "str") (.ref CT) = some false)
  (y_t1:PySem.W.subIn K (.type "NoneType") (.ref CT) = some false)
  (y_t2:PySem.W.subIn K (.type "int") (.ref CT) = some false)
  (y_t3:PySem.W.subIn K (.type "list") (.ref CT) = some false)
  (y_t4:PySem.W.subIn K (.type "tuple") (.ref CT) = some false)
  (y_t5:PySem.W.subIn K (.type "bool") (.ref CT) = some false)
  (y_f:PySem.W.notFirst K CT (.ref CT) = true)
  (y_f0:PySem.W.notFirst K CT (.type "str") = true)
  (y_f1:PySem.W.notFirst K CT (.type "NoneType") = true)
  (y_f2:PySem.W.notFirst K CT (.type "int") = true)
  (y_f3:PySem.W.notFirst K CT (.type "list") = true)
  (y_f4:PySem.W.notFirst K CT (.type "tuple") = true)
  (y_f5:PySem.W.notFirst K CT (.type "bool") = true)
  (y_ne:PySem.W.findIn K (.ref CT) "__ne__" = some (some (.builtin "object.__ne__")))
  (g_W:PySem.W.nsIn K mainGlobals "WORDS" = some (some (.ref aW)))
  (g_F:PySem.W.nsIn K mainGlobals "FIRST" = some (some (.str letters tF)))
  (g_L:PySem.W.nsIn K mainGlobals "LATER" = some (some (.str later tL)))
  (g_S:PySem.W.nsIn K mainGlobals "MOST_SIGNS" = some (some (.int 8 tS)))
  (g_P:PySem.W.nsIn K mainGlobals "MOST_PARTS" = some (some (.int 3 tP)))
  (t_W:K.lookup aW = some ⟨.type "tuple",od_aW,.seq it_aW nn_aW,sl_aW⟩)
  (e_W:it_aW.toList.map absV = (words.map V.str).map some)
  (z_W:it_aW.size ≤ sizeLine)
  (tPD:PySem.W.takesIn K (.ref pD) = some true)
  (rPD:PySem.W.recIn K pD "property" = some (.ref fPD :: rsP)) :
  G0.Cal P w K mg base 46 "law" (spLaw K):=by
 have DWr:Dfn K mg "written" s_written:=dfn_mk X G aWr lWr cqWr kWr
 have DZ:Dfn K mg "zero_term" s_zero_term:=dfn_mk X G aZ lZ cqZ kZ
 have DFT:Dfn K mg "function_term" s_function_term:=dfn_mk X G aFT lFT cqFT kFT
 have DRU:Dfn K mg "rule_term" s_rule_term:=dfn_mk X G aRU lRU cqRU kRU
 have Dxpen:Dfn K mg "_law_pen" s_law_pen:=dfn_mk X G axpen lxpen cqxpen kxpen
 have Dxdraw:Dfn K mg "_law_draw" s_law_draw:=dfn_mk X G axdraw lxdraw cqxdraw kxdraw
 have Dxwords:Dfn K mg "_law_words" s_law_words:=dfn_mk X G axwords lxwords cqxwords kxwords
 have Dxnames:Dfn K mg "_law_names" s_law_names:=dfn_mk X G axnames lxnames cqxnames kxnames
 have Dxtext:Dfn K mg "_law_text" s_law_text:=dfn_mk X G axtext lxtext cqxtext kxtext
 have Dxlot:Dfn K mg "_law_lot" s_law_lot:=dfn_mk X G axlot lxlot cqxlot kxlot
 have Dxrow:Dfn K mg "_law_row" s_law_row:=dfn_mk X G axrow lxrow cqxrow kxrow
 have Dxcolumn:Dfn K mg "_law_column" s_law_column:=dfn_mk X G axcolumn lxcolumn cqxcolumn kxcolumn
 have Dxvalue:Dfn K mg "_law_value" s_law_value:=dfn_mk X G axvalue lxvalue cqxvalue kxvalue
 have Dxterm:Dfn K mg "_law_term" s_law_term:=dfn_mk X G axterm lxterm cqxterm kxterm
 have Dxapplied:Dfn K mg "_law_applied" s_law_applied:=dfn_mk X G axapplied lxapplied cqxapplied kxapplied
 have Dxbuilt:Dfn K mg "_law_built" s_law_built:=dfn_mk X G axbuilt lxbuilt cqxbuilt kxbuilt
 have Dxis:Dfn K mg "_law_is" s_law_is:=dfn_mk X G axis lxis cqxis kxis
 have Dxdepth:Dfn K mg "_law_depth" s_law_depth:=dfn_mk X G axdepth lxdepth cqxdepth kxdepth
 have Dxsecond:Dfn K mg "_law_second" s_law_second:=dfn_mk X G axsecond lxsecond cqxsecond kxsecond
 have Dxrows:Dfn K mg "_law_rows" s_law_rows:=dfn_mk X G axrows lxrows cqxrows kxrows
 have Dxright:Dfn K mg "_law_right" s_law_right:=dfn_mk X G axright lxright cqxright kxright
 have DLaw:Dfn K mg "law" s_law:=dfn_mk X G aLaw lLaw cqLaw kLaw
 have DEQ:Mth K CT "__eq__" "Term.__eq__" s_Term_eq:=mth_mk aEQ iEQ lEQ cqEQ kEQ
 have DST:Mth K CT "__str__" "Term.__str__" s_Term_str:=mth_mk aST iST lST cqST kST
 have DSU:Mth K CT "subterms" "Term.subterms" GG.s_sub:=mth_mk aSU iSU lSU cqSU kSU
 have DSE:Mth K CT "second" "Term.second" s_Term_second:=mth_mk aSE iSE lSE cqSE kSE
 have DRN:Mth K CT "row_names" "Term.row_names" s_Term_row_names:=mth_mk aRN iRN lRN cqRN kRN
 have DPD:GU.Prp K CT "depth" "Term.depth" s_Term_depth:=⟨_,_,_,fun_mk lPD cqPD kPD,⟨aPD,iPD,tPD,⟨_,rPD⟩⟩⟩
 have Ddr:G1.DfnD K mg "row_term" s_row_term [.bl false]:=G1.dfnD_mk X G adr ldr cqdr kdr lTdr eTdr (by simp)
 have Ddc:G1.DfnD K mg "column_term" s_column_term [.bl false]:=G1.dfnD_mk X G adc ldc cqdc kdc lTdc eTdc (by simp)
 have Ddp:G1.DfnD K mg "place_term" s_place_term [.bl false]:=G1.dfnD_mk X G adp ldp cqdp kdp lTdp eTdp (by simp)
 have DI:G1.MthN K CT "__init__" "Term.__init__" s_Term_init [.bl false]:=G1.mthN_mk aI iI lI cqI kI lTI eTI (by simp)
 have KT:Kls K mg "Term" CT:=⟨⟨pgT,hdT,poT,saT⟩,mkT,kcT,PySem.W.mg_of X G aCT⟩
 have b_int:mg "int" = none:=PySem.W.mg_none_of X G z_int
 have b_len:mg "len" = none:=PySem.W.mg_none_of X G z_len
 have b_abs:mg "abs" = none:=PySem.W.mg_none_of X G z_abs
 have b_list:mg "list" = none:=PySem.W.mg_none_of X G z_list
 have b_range:mg "range" = none:=PySem.W.mg_none_of X G z_range
 have b_isinstance:mg "isinstance" = none:=PySem.W.mg_none_of X G z_isinstance
 have b_all:mg "all" = none:=PySem.W.mg_none_of X G z_all
 have b_any:mg "any" = none:=PySem.W.mg_none_of X G z_any
 have b_enumerate:mg "enumerate" = none:=PySem.W.mg_none_of X G z_enumerate
 have b_str:mg "str" = none:=PySem.W.mg_none_of X G z_str
 have b_tuple:mg "tuple" = none:=PySem.W.mg_none_of X G z_tuple
 have b_bool:mg "bool" = none:=PySem.W.mg_none_of X G z_bool
 have b_zip:mg "zip" = none:=PySem.W.mg_none_of X G z_zip
 have b_max:mg "max" = none:=PySem.W.mg_none_of X G z_max
 have b_sorted:mg "sorted" = none:=PySem.W.mg_none_of X G z_sorted
 have b_set:mg "set" = none:=PySem.W.mg_none_of X G z_set
 have T:Txt K mg CT aW:=⟨b_any,b_enumerate,⟨_,PySem.W.mg_of X G g_W,rfl⟩,fun F R => .tup (GB.kTup t_W e_W z_W F) (repStrs words),⟨_,PySem.W.mg_of X G g_F,⟨_,rfl⟩⟩,later_eq ▸ ⟨_,PySem.W.mg_of X G g_L,⟨_,rfl⟩⟩,⟨_,PySem.W.mg_of X G g_S,⟨_,rfl⟩⟩,⟨_,PySem.W.mg_of X G g_P,⟨_,rfl⟩⟩,b_int,b_len,b_abs,b_list,b_range,b_isinstance,b_all,b_str,b_tuple,b_bool,b_zip,b_max,b_sorted,b_set,KT.at_⟩
 have F:TrmF K CT:=⟨⟨KT.cls,y_ha,y_hn,y_tk,y_hm⟩,kit_self,fun s hs => by
   simp only [List.mem_cons,List.not_mem_nil,or_false] at hs
   rcases hs with rfl | rfl | rfl | rfl | rfl | rfl
   ·exact kit_no y_ic y_ty y_t0 rfl
   ·exact kit_no y_ic y_ty y_t1 rfl
   ·exact kit_no y_ic y_ty y_t2 rfl
   ·exact kit_no y_ic y_ty y_t3 rfl
   ·exact kit_no y_ic y_ty y_t4 rfl
   ·exact kit_no y_ic y_ty y_t5 rfl,y_f,fun s hs => by
   simp only [List.mem_cons,List.not_mem_nil,or_false] at hs
   rcases hs with rfl | rfl | rfl | rfl | rfl | rfl
   ·exact y_f0
   ·exact y_f1
   ·exact y_f2
   ·exact y_f3
   ·exact y_f4
   ·exact y_f5,y_ne,KT.makes,⟨KT.cls,n1⟩,⟨KT.cls,n2⟩,⟨KT.cls,n3⟩,⟨KT.cls,n4⟩,⟨KT.cls,n5⟩⟩
 have c1:=cWritten (P:=P) (w:=w) (base:=base) DWr T
 have q4:=kT4 DI KT T F c1
 have q3:=kT3 DI KT T F c1
 have r2:=rt2 Ddr T q4
 have p2:=pt2 Ddp T q3 r2
 have k3:=ct3 Ddc T q3 r2
 have z0:=cZero DZ T q3
 have f0:=cFun DFT T q3
 have u0:=cRule DRU T q3
 have m1:=mStr (P:=P) (w:=w) (base:=base) DST T F
 have m2:=mEq (P:=P) (w:=w) (base:=base) DEQ T F
 have d1:=cDraw (P:=P) (w:=w) (base:=base) Dxdraw T
 have d2:=cPen (P:=P) (w:=w) (base:=base) Dxpen T
 have d3:=cWords (P:=P) (w:=w) (base:=base) Dxwords T
 have d4:=cNames Dxnames T d1 d3
 have d5:=cLot Dxlot T d1 d4
 have d6:=cRow Dxrow T d1
 have d7:=cColumn Dxcolumn T d1 d6
 have d8:=cValue Dxvalue T d1 d7
 have d9:=cTerm Dxterm T d1 d6 d7 d8
 have e1:=cText (P:=P) (w:=w) (base:=base) Dxtext T
 have e2:=cApplied Dxapplied T f0 u0
 have e3:=cBuilt Dxbuilt T z0 r2 p2 k3 e2 11
 have h0:=pDepth (P:=P) (w:=w) (base:=base) DPD T F 11
 have h1:=mSecond DSE T F q4 q3 11
 have h2:=mRows (P:=P) (w:=w) (base:=base) DRN T F ⟨KT.cls,n5,n3⟩ DSU
 have h3:=cIs Dxis T F e1 m1 11
 have h4:=cDepth (P:=P) (w:=w) (base:=base) Dxdepth T 11
 have h5:=cSecond (P:=P) (w:=w) (base:=base) Dxsecond T 11
 have h6:=cRows Dxrows T e1 11
 have h7:=cRight Dxright T F h0 h1 h2 h3 h4 h5 h6
 exact G0.up (law_cal (cLaw DLaw T d2 d1 d5 d9 e3 h5 h7))
end
end K02
open PySem PySem.W PyProof.Rows in
set_option maxRecDepth 100000 in
set_option maxHeartbeats 0 in
theorem PySem.Challenge.cw_splitplans_k02_second_stories_of_terms_holds : PySem.Challenge.rw_splitplans_k02_second_stories_of_terms.Holds := by
 w_on; o_law; k_head; (case hw => w_witness2)
 k_fill
 refine G0.walkG (l:=PySem.Challenge.rw_splitplans_k02_second_stories_of_terms) (k:=46) (sp:=GD.spLaw) rfl rfl ⟨⟨rfl,by decide,by decide⟩,rfl⟩ (fun w h Y => PySem.W.kIn_of Y) (fun K H a ns hl hS => ⟨a,ns,rfl,hS,hl,fun _ => rfl⟩) ?F
 case F =>
  intro w mg h KX G base
  refine' K02.all_mk KX G ?aCT ?pgT ?hdT ?poT ?saT ?mkT ?kcT ?aWr ?lWr ?cqWr ?kWr ?aZ ?lZ ?cqZ ?kZ ?aFT ?lFT ?cqFT ?kFT ?aRU ?lRU ?cqRU ?kRU ?axpen ?lxpen ?cqxpen ?kxpen ?axdraw ?lxdraw ?cqxdraw ?kxdraw ?axwords ?lxwords ?cqxwords ?kxwords ?axnames ?lxnames ?cqxnames ?kxnames ?axtext ?lxtext ?cqxtext ?kxtext ?axlot ?lxlot ?cqxlot ?kxlot ?axrow ?lxrow ?cqxrow ?kxrow ?axcolumn ?lxcolumn ?cqxcolumn ?kxcolumn ?axvalue ?lxvalue ?cqxvalue ?kxvalue ?axterm ?lxterm ?cqxterm ?kxterm ?axapplied ?lxapplied ?cqxapplied ?kxapplied ?axbuilt ?lxbuilt ?cqxbuilt ?kxbuilt ?axis ?lxis ?cqxis ?kxis ?axdepth ?lxdepth ?cqxdepth ?kxdepth ?axsecond ?lxsecond ?cqxsecond ?kxsecond ?axrows ?lxrows ?cqxrows ?kxrows ?axright ?lxright ?cqxright ?kxright ?aLaw ?lLaw ?cqLaw ?kLaw ?aEQ ?iEQ ?lEQ ?cqEQ ?kEQ ?aST ?iST ?lST ?cqST ?kST ?aSU ?iSU ?lSU ?cqSU ?kSU ?aSE ?iSE ?lSE ?cqSE ?kSE ?aRN ?iRN ?lRN ?cqRN ?kRN ?aPD ?iPD ?lPD ?cqPD ?kPD ?adr ?ldr ?cqdr ?kdr ?lTdr ?eTdr ?adc ?ldc ?cqdc ?kdc ?lTdc ?eTdc ?adp ?ldp ?cqdp ?kdp ?lTdp ?eTdp ?aI ?iI ?lI ?cqI ?kI ?lTI ?eTI ?n1 ?n2 ?n3 ?n4 ?n5 ?z_int ?z_len ?z_abs ?z_list ?z_range ?z_isinstance ?z_all ?z_any ?z_enumerate ?z_str ?z_tuple ?z_bool ?z_zip ?z_max ?z_sorted ?z_set ?y_ha ?y_hn ?y_tk ?y_hm ?y_ic ?y_ty ?y_t0 ?y_t1 ?y_t2 ?y_t3 ?y_t4 ?y_t5 ?y_f ?y_f0 ?y_f1 ?y_f2 ?y_f3 ?y_f4 ?y_f5 ?y_ne ?g_W ?g_F ?g_L ?g_S ?g_P ?t_W ?e_W ?z_W ?tPD ?rPD
  (case aCT => k_is)
  (case pgT => k_is)
  (case hdT => k_is)
  (case poT => k_is)
  (case saT => k_is)
  (case mkT => k_is)
  (case kcT => k_is)
  (case aWr => k_is)
  (case lWr => k_is)
  (case cqWr => k_is)
  (case kWr => k_is)
  (case aZ => k_is)
  (case lZ => k_is)
  (case cqZ => k_is)
  (case kZ => k_is)
  (case aFT => k_is)
  (case lFT => k_is)
  (case cqFT => k_is)
  (case kFT => k_is)
  (case aRU => k_is)
  (case lRU => k_is)
  (case cqRU => k_is)
  (case kRU => k_is)
  (case axpen => k_is)
  (case lxpen => k_is)
  (case cqxpen => k_is)
  (case kxpen => k_is)
  (case axdraw => k_is)
  (case lxdraw => k_is)
  (case cqxdraw => k_is)
  (case kxdraw => k_is)
  (case axwords => k_is)
  (case lxwords => k_is)
  (case cqxwords => k_is)
  (case kxwords => k_is)
  (case axnames => k_is)
  (case lxnames => k_is)
  (case cqxnames => k_is)
  (case kxnames => k_is)
  (case axtext => k_is)
  (case lxtext => k_is)
  (case cqxtext => k_is)
  (case kxtext => k_is)
  (case axlot => k_is)
  (case lxlot => k_is)
  (case cqxlot => k_is)
  (case kxlot => k_is)
  (case axrow => k_is)
  (case lxrow => k_is)
  (case cqxrow => k_is)
  (case kxrow => k_is)
  (case axcolumn => k_is)
  (case lxcolumn => k_is)
  (case cqxcolumn => k_is)
  (case kxcolumn => k_is)
  (case axvalue => k_is)
  (case lxvalue => k_is)
  (case cqxvalue => k_is)
  (case kxvalue => k_is)
  (case axterm => k_is)
  (case lxterm => k_is)
  (case cqxterm => k_is)
  (case kxterm => k_is)
  (case axapplied => k_is)
  (case lxapplied => k_is)
  (case cqxapplied => k_is)
  (case kxapplied => k_is)
  (case axbuilt => k_is)
  (case lxbuilt => k_is)
  (case cqxbuilt => k_is)
  (case kxbuilt => k_is)
  (case axis => k_is)
  (case lxis => k_is)
  (case cqxis => k_is)
  (case kxis => k_is)
  (case axdepth => k_is)
  (case lxdepth => k_is)
  (case cqxdepth => k_is)
  (case kxdepth => k_is)
  (case axsecond => k_is)
  (case lxsecond => k_is)
  (case cqxsecond => k_is)
  (case kxsecond => k_is)
  (case axrows => k_is)
  (case lxrows => k_is)
  (case cqxrows => k_is)
  (case kxrows => k_is)
  (case axright => k_is)
  (case lxright => k_is)
  (case cqxright => k_is)
  (case kxright => k_is)
  (case aLaw => k_is)
  (case lLaw => k_is)
  (case cqLaw => k_is)
  (case kLaw => k_is)
  (case aEQ => k_is)
  (case iEQ => k_is)
  (case lEQ => k_is)
  (case cqEQ => k_is)
  (case kEQ => k_is)
  (case aST => k_is)
  (case iST => k_is)
  (case lST => k_is)
  (case cqST => k_is)
  (case kST => k_is)
  (case aSU => k_is)
  (case iSU => k_is)
  (case lSU => k_is)
  (case cqSU => k_is)
  (case kSU => k_is)
  (case aSE => k_is)
  (case iSE => k_is)
  (case lSE => k_is)
  (case cqSE => k_is)
  (case kSE => k_is)
  (case aRN => k_is)
  (case iRN => k_is)
  (case lRN => k_is)
  (case cqRN => k_is)
  (case kRN => k_is)
  (case aPD => k_is)
  (case tPD => k_is)
  (case rPD => k_is)
  (case iPD => k_is)
  (case lPD => k_is)
  (case cqPD => k_is)
  (case kPD => k_is)
  (case adr => k_is)
  (case ldr => k_is)
  (case cqdr => k_is)
  (case kdr => k_is)
  (case lTdr => k_is)
  (case eTdr => rfl)
  (case adc => k_is)
  (case ldc => k_is)
  (case cqdc => k_is)
  (case kdc => k_is)
  (case lTdc => k_is)
  (case eTdc => rfl)
  (case adp => k_is)
  (case ldp => k_is)
  (case cqdp => k_is)
  (case kdp => k_is)
  (case lTdp => k_is)
  (case eTdp => rfl)
  (case aI => k_is)
  (case iI => k_is)
  (case lI => k_is)
  (case cqI => k_is)
  (case kI => k_is)
  (case lTI => k_is)
  (case eTI => rfl)
  (case n1 => k_is)
  (case n2 => k_is)
  (case n3 => k_is)
  (case n4 => k_is)
  (case n5 => k_is)
  (case z_int => k_is)
  (case z_len => k_is)
  (case z_abs => k_is)
  (case z_list => k_is)
  (case z_range => k_is)
  (case z_isinstance => k_is)
  (case z_all => k_is)
  (case z_any => k_is)
  (case z_enumerate => k_is)
  (case z_str => k_is)
  (case z_tuple => k_is)
  (case z_bool => k_is)
  (case z_zip => k_is)
  (case z_max => k_is)
  (case z_sorted => k_is)
  (case z_set => k_is)
  (case y_ha => k_is)
  (case y_hn => k_is)
  (case y_tk => k_is)
  (case y_hm => k_is)
  (case y_ic => k_is)
  (case y_ty => k_is)
  (case y_t0 => k_is)
  (case y_t1 => k_is)
  (case y_t2 => k_is)
  (case y_t3 => k_is)
  (case y_t4 => k_is)
  (case y_t5 => k_is)
  (case y_f => k_is)
  (case y_f0 => k_is)
  (case y_f1 => k_is)
  (case y_f2 => k_is)
  (case y_f3 => k_is)
  (case y_f4 => k_is)
  (case y_f5 => k_is)
  (case y_ne => k_is)
  (case g_W => k_is)
  (case g_F => k_is)
  (case g_L => k_is)
  (case g_S => k_is)
  (case g_P => k_is)
  (case t_W => k_is)
  (case e_W => rfl)
  (case z_W => decide +kernel)
#print axioms PySem.Challenge.cw_splitplans_k02_second_stories_of_terms_holds
