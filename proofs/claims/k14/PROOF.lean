import PyProof.Rows.All
import Wide.All
import OpenK.AllK
import Wide.FinOn
import HandS.ForMost
import HandS.ForExc
import HandS.TupSets
import HandS.Star
import HandS.RaiseMore
import HandS.Flow
import HandS.Defaults
import HandS.MakeKw
import HandS.MakeKwOnly
import HandS.IsInst
import HandS.Deep
import HandS.NoneIn
import HandS.Style
import HandS.Walk
import HandS.Zip
import HandS.TupAny
import HandS.ClsMeth
import PySem.Challenge.RW_splitplans_k14_tables_told
set_option Elab.async false
set_option linter.all false
set_option maxRecDepth 100000
set_option maxHeartbeats 4000000
namespace GB
open PySem PySem.Spec PyProof.Rows L2
/-- a def of the text as it stands -/
structure Dfn (K : PySem.W.Frag) (mg : Str → Option Value) (x : Str) (st : Stmt) : Prop where
  ex : ∃ (f : Addr) (fd : FuncData), Fun K x x st f fd ∧ mg x = some (.ref f)
theorem dfn_mk {K : PySem.W.Frag} {mg : Str → Option Value} {h : Heap} {x : Str} {st : Stmt} {f : Addr} {oc : Value} {od an : Option Addr} {osl : Array (Option Value)} {kV doc pm cdv ct : Value} (X : K.In h) (G : h.Ns mainGlobals mg)
    (a : PySem.W.nsIn K mainGlobals x = some (some (.ref f))) (l : K.lookup f = some ⟨oc, od, .func (PySem.W.fnOf x x (defArgs st) (defBody st) (defScope st) .none kV doc pm an cdv ct), osl⟩)
    (c : PySem.W.codeIn K cdv x = true) (k : PySem.W.keepIn K (.ref f) = true) : Dfn K mg x st := ⟨f, _, fun_mk l c k, PySem.W.mg_of X G a⟩
/-! ### classes -/
/-- a class of the text: its address by its name, what its instances' attributes are like -/
structure Kls (K : PySem.W.Frag) (mg : Str → Option Value) (x : Str) (C : Addr) : Prop where
  cls : Cls K C
  makes : PySem.W.makesIn K C = true
  kp : PySem.W.keepIn K (.ref C) = true
  at_ : mg x = some (.ref C)
/-- a method of it -/
structure Mth (K : PySem.W.Frag) (C : Addr) (m qual : Str) (st : Stmt) : Prop where
  ex : ∃ (f : Addr) (fd : FuncData), Fun K m qual st f fd ∧ PySem.W.findIn K (.ref C) m = some (some (.ref f)) ∧ PySem.W.isFn K (.ref f) = true
theorem mth_mk {K : PySem.W.Frag} {m qual : Str} {C : Addr} {st : Stmt} {f : Addr} {oc : Value} {od an : Option Addr} {osl : Array (Option Value)} {kV doc pm cdv ct : Value}
    (a : PySem.W.findIn K (.ref C) m = some (some (.ref f))) (i : PySem.W.isFn K (.ref f) = true) (l : K.lookup f = some ⟨oc, od, .func (PySem.W.fnOf m qual (defArgs st) (defBody st) (defScope st) .none kV doc pm an cdv ct), osl⟩)
    (c : PySem.W.codeIn K cdv qual = true) (k : PySem.W.keepIn K (.ref f) = true) : Mth K C m qual st := ⟨f, _, fun_mk l c k, a, i⟩
/-- all but what stands at S is kept, and every tuple -/
structure Kp (S : List Addr) (H H' : Hp) : Prop where
  keep : ∀ b o, b ∉ S → H b = some o → H' b = some o
  tup : ∀ b xs, H b = some (.tup xs) → H' b = some (.tup xs)
  dom : ∀ b, H' b = none → H b = none
theorem Kp.refl (S : List Addr) (H : Hp) : Kp S H H := ⟨fun _ _ _ e => e, fun _ _ e => e, fun _ e => e⟩
theorem Kp.trans {S : List Addr} {H H1 H2 : Hp} (a : Kp S H H1) (b : Kp S H1 H2) : Kp S H H2 := ⟨fun c o n e => b.keep c o n (a.keep c o n e), fun c o e => b.tup c o (a.tup c o e), fun c e => a.dom c (b.dom c e)⟩
theorem Kp.mono {S S' : List Addr} {H H1 : Hp} (a : Kp S H H1) (h : ∀ b ∈ S, b ∈ S') : Kp S' H H1 := ⟨fun c o n e => a.keep c o (fun z => n (h c z)) e, a.tup, a.dom⟩
theorem Kp.same {H H1 : Hp} (a : Kp [] H H1) : Same H H1 := fun b o e => a.keep b o (fun z => nomatch z) e
theorem Kp.new {S : List Addr} {H : Hp} {p : Addr} {o : HO} (h : H p = none) : Kp S H (upd H p o) := by
  have k : ∀ b u, H b = some u → upd H p o b = some u := fun b u e => by rw [upd_ne (ne_of_none e h)]; exact e
  refine ⟨fun b u _ e => k b u e, fun b xs e => k b _ e, fun b e => ?_⟩
  by_cases hb : b = p
  · subst hb; exact h
  · rwa [upd_ne hb] at e
theorem Kp.put {H : Hp} {p : Addr} {o u : HO} (h : H p = some u) (nt : ∀ xs, u ≠ .tup xs := by intro _ z; cases z) : Kp [p] H (upd H p o) := by
  refine ⟨fun b v n e => ?_, fun b xs e => ?_, fun b e => ?_⟩
  · rw [upd_ne (fun z => n (by simp [z]))]; exact e
  · rw [upd_ne (fun z => by subst z; rw [h] at e; exact nt xs (Option.some.inj e))]; exact e
  · by_cases hb : b = p
    · subst hb; rw [upd_same] at e; cases e
    · rwa [upd_ne hb] at e
/-- what is new ahead of H0 may change -/
theorem Kp.putNew {S : List Addr} {H0 H : Hp} {p : Addr} {o : HO} (a : Kp S H0 H) (h0 : H0 p = none) (nt : ∀ xs, H p ≠ some (.tup xs)) : Kp S H0 (upd H p o) := by
  refine ⟨fun b v n e => ?_, fun b xs e => ?_, fun b e => ?_⟩
  · rw [upd_ne (ne_of_none e h0)]; exact a.keep b v n e
  · rw [upd_ne (ne_of_none e h0)]; exact a.tup b xs e
  · by_cases hb : b = p
    · subst hb; exact h0
    · rw [upd_ne hb] at e; exact a.dom b e
theorem Kp.newOf {S : List Addr} {H0 H1 H : Hp} {p : Addr} (a : Kp (p :: S) H H1) (k : Kp S H0 H) (h0 : H0 p = none) : Kp S H0 H1 :=
  ⟨fun b v n e => a.keep b v (fun z => (List.mem_cons.mp z).elim (fun q => by subst q; rw [h0] at e; cases e) n) (k.keep b v n e), fun b xs e => a.tup b xs (k.tup b xs e), fun b e => k.dom b (a.dom b e)⟩
theorem Kp.made {S : List Addr} {H : Hp} {x dx C : Addr} (nx : H x = none) (nd : H dx = none) : Kp S H (upd (upd H dx (.own x)) x (.ins C dx [])) := by
  by_cases e : x = dx
  · subst e; rw [upd_upd]; exact Kp.new nx
  · exact (Kp.new nd).trans (Kp.new (by rw [upd_ne e]; exact nx))
theorem Kp.at {S : List Addr} {H H1 : Hp} {b : Addr} {o : HO} (a : Kp S H H1) (e : H b = some o) (n : b ∉ S := by simp_all) : H1 b = some o := a.keep b o n e
theorem Kp.fresh {S : List Addr} {H H1 : Hp} {b c : Addr} {o : HO} (a : Kp S H H1) (e : H b = some o) (n : H1 c = none) : b ≠ c := ne_of_none e (a.dom c n)
theorem not1 {a p : Addr} (h : a ≠ p) : a ∉ [p] := fun z => h (by simpa using z)
section
variable {X : Cx}
theorem call_int_i : CallR X (.type "int") (fun xs H Q => ∃ i, xs = [.int i] ∧ Q (.int i) H) := fun pins s σ H xs us Q I r h => call_int1 pins s σ H xs us Q I r (.inl h)
theorem call_int_b : CallR X (.type "int") (fun xs H Q => ∃ k, xs = [.bl k] ∧ Q (.int (if k then 1 else 0)) H) := fun pins s σ H xs us Q I r h => call_int1 pins s σ H xs us Q I r (.inr h)
end
theorem atI_ints {cs : List Int} {z : Int} (h0 : 0 ≤ z) (h1 : z < (cs.length : Int)) : ∃ v, atI (cs.map V.int) z = some (.int v) := by
  obtain ⟨j, rfl⟩ := Int.eq_ofNat_of_zero_le h0
  have hj : j < cs.length := by omega
  exact ⟨cs[j], atI_nat (by rw [List.getElem?_map, List.getElem?_eq_getElem hj]; rfl)⟩
theorem mod_lt' {a b : Int} (h : 0 < b) : 0 ≤ a % b ∧ a % b < b := ⟨Int.emod_nonneg _ (by omega), Int.emod_lt_of_pos _ h⟩
/-! ### where two ways meet again -/
def tCut (t u : TS) : TS := fun D σ H => ∃ Mid : L2.St → Hp → Prop, t { D with nx := Mid } σ H ∧ ∀ σ' H', Mid σ' H' → u D σ' H'
theorem pss_cut {X : Cx} {st : Stmt} {rest : List Stmt} {t u : TS} (h1 : PS X st t) (h2 : PSs X rest u) : PSs X (st :: rest) (tCut t u) := by
  refine ⟨fun pins s σ H D I h => ?_⟩
  obtain ⟨Mid, a, b⟩ := h
  refine wpAny_execs_cons (thn (h1.run pins s σ H { D with nx := Mid } I a) fun f s1 q => ?_)
  match f, q with
  | .next, q => obtain ⟨σ', H', I', q⟩ := q; exact h2.run pins s1 σ' H' D I' (b σ' H' q)
  | .ret v, q => exact q
  | .brk, q => exact q
  | .cont, q => exact q
/-! ### tuples of ints compared -/
theorem dpInts {K : PySem.W.Frag} {H : Hp} : ∀ ns : List Int, DpAll K H (ns.map V.int) (ns.map PyData.int)
  | [] => .nil
  | n :: ns => .cons (.int n) (dpInts ns)
theorem layInts : ∀ ns : List Int, PyData.canLayAll0 (ns.map PyData.int) = true
  | [] => rfl
  | n :: ns => by simp [PyData.canLayAll0, PyData.canLay0, layInts ns]
theorem depInts : ∀ ns : List Int, PyData.depthAll (ns.map PyData.int) = 0
  | [] => rfl
  | n :: ns => by simp [PyData.depthAll, PyData.depth, depInts ns]
theorem shapedTI (ns : List Int) : SeqAt.shaped (.tuple (ns.map PyData.int)) = true := by
  simp [SeqAt.shaped, PyData.canLay0, layInts, PyData.depth, depInts]
theorem eqvInts : ∀ ns ms : List Int, PyData.eqvAll (ns.map PyData.int) (ms.map PyData.int) = decide (ns = ms)
  | [], [] => by simp [PyData.eqvAll]
  | [], m :: ms => by simp [PyData.eqvAll]
  | n :: ns, [] => by simp [PyData.eqvAll]
  | n :: ns, m :: ms => by
    have ih := eqvInts ns ms
    simp only [List.map_cons, PyData.eqvAll, ih, PyData.eqv, List.cons.injEq]
    by_cases h : n = m <;> by_cases h2 : ns = ms <;> simp [h, h2]
section
variable {X : Cx}
def rEqTI (K : PySem.W.Frag) : R2 := fun x y H Q => ∃ (t u : Addr) (ns ms : List Int), x = .ref t ∧ y = .ref u ∧ SqT K H t (ns.map V.int) ∧ SqT K H u (ms.map V.int) ∧ Q (.bl (decide (ns = ms))) H
def rNeTI (K : PySem.W.Frag) : R2 := fun x y H Q => ∃ (t u : Addr) (ns ms : List Int), x = .ref t ∧ y = .ref u ∧ SqT K H t (ns.map V.int) ∧ SqT K H u (ms.map V.int) ∧ Q (.bl (!decide (ns = ms))) H
end
theorem dp_noDict {K : PySem.W.Frag} {H : Hp} : ∀ {v : V} {d : PyData}, Dp K H v d → d.hasDict = false := by
  intro v d h
  exact Dp.rec (motive_1 := fun _ d _ => d.hasDict = false) (motive_2 := fun _ ds _ => PyData.hasDictAll ds = false)
    (by rfl) (fun _ => by rfl) (fun _ => by rfl) (fun _ => by rfl) (fun _ _ ih => by simpa [PyData.hasDict] using ih) (fun _ _ ih => by simpa [PyData.hasDict] using ih)
    (by rfl) (fun _ _ i1 i2 => by simp [PyData.hasDictAll, i1, i2]) h
section
variable {X : Cx} {C : Addr}
theorem inst_at {pins : List (Addr × Obj)} {σ : L2.St} {H : Hp} {s : Shared} {a dx : Addr} {fs : List (Str × V)} (I : Inv X pins σ H s) (h : H a = some (.ins C dx fs)) : ∃ ox od, PySem.W.InstAt s.heap a ox C od := by
  obtain ⟨mA, O, _⟩ := ins_get I.hok h
  obtain ⟨od, J, _⟩ := O.look
  exact ⟨_, _, J⟩
end
/-- a comparison that the left side's own method answers -/
theorem cmp_one {prog : Program} {w : World} {A : Around} {E : Value → Shared → Prop} {s : Shared} {K : PySem.W.Frag} {x C : Addr} {ox : Obj} {od : Option Obj} {b tb : Value} {op : CmpOp} {Q : Value → Shared → Prop} (hu : A.units < cLine) (inK : K.In s.heap)
    (J : PySem.W.InstAt s.heap x ox C od) (hb : PySem.W.Looks (model prog w) s.heap (typeOf b) tb) (nf : PySem.W.notFirst K C tb = true)
    (one : wpAny (model prog w) A (tryCompare (.ref x) (cmpInfo op).2.1 b) (fun r s' => ∃ v, r = some v ∧ Q v s') E s) : wpAny (model prog w) A (richCompare op (.ref x) b) Q E s := by
  unfold richCompare
  simp only [oneThing_ref]
  refine wpAny_holding (wpAny_bind (wpAny_cRoomFor hu (wpAny_bind (J.type.here (wpAny_bind (hb.here ?_))))))
  split
  · rename_i ne
    have sub : PySem.W.subIn K tb (.ref C) = some false := by
      rcases Bool.or_eq_true_iff.mp nf with z | z
      · rw [beq_iff_eq.mp z] at ne; simp at ne
      · exact beq_iff_eq.mp z
    refine wpAny_bind ((PySem.W.looks_subIn inK sub).here ?_)
    simp only [Bool.false_eq_true, if_false]
    refine wpAny_bind (wpAny_mono one (fun r s' z => ?_) fun _ _ e => e)
    obtain ⟨v, rfl, q⟩ := z
    exact wpAny_pure q
  · refine wpAny_bind (wpAny_pure ?_)
    simp only [Bool.false_eq_true, if_false]
    refine wpAny_bind (wpAny_mono one (fun r s' z => ?_) fun _ _ e => e)
    obtain ⟨v, rfl, q⟩ := z
    exact wpAny_pure q
theorem one_bind : ∀ self : Value, bindSpecial (.builtin "object.__ne__") self = pure (.builtin "object.__ne__", [self]) :=
  (Slot.of (T := "object") (name := "__ne__") (owner := "object") (n := "__ne__") (by rw [typeLookup_type, builtinLookup_eq_fast]; kernel_rfl) (by decide +kernel) (by decide +kernel) (by decide +kernel)
    (.inl (by decide +kernel)) (by rw [isSubtype_type]; kernel_rfl)).bind
theorem one_plain : plainId "object.__ne__" = true := by decide +kernel
/-- !=: object's own, by the class's == -/
theorem ne_own {prog : Program} {w : World} {A : Around} {E : Value → Shared → Prop} {s : Shared} {K : PySem.W.Frag} {x C f : Addr} {ox : Obj} {od : Option Obj} {b : Value} {Q : Value → Shared → Prop} (hu : A.in1.units < cLine) (inK : K.In s.heap)
    (J : PySem.W.InstAt s.heap x ox C od) (top : PySem.W.Looks (model prog w) s.heap (isInstance (.ref x) (.type "object")) true)
    (hn : PySem.W.findIn K (.ref C) "__ne__" = some (some (.builtin "object.__ne__"))) (fi : PySem.W.findIn K (.ref C) "__eq__" = some (some (.ref f))) (isf : PySem.W.isFn K (.ref f) = true)
    (h : wpAny (model prog w) A.in1 (call (.ref f) [.ref x, b]) (fun v s' => ∃ r, v = .bool r ∧ Q (.bool (!r)) s') E s) :
    wpAny (model prog w) A (tryCompare (.ref x) "__ne__" b) (fun r s' => ∃ v, r = some v ∧ Q v s') E s := by
  have go : wpAny (model prog w) A (call (.builtin "object.__ne__") ([.ref x] ++ [b])) (fun v s' => ∃ r, v = .bool r ∧ Q (.bool r) s') E s := by
    refine wpAny_call (codeAny_call_builtin one_plain PySem.F.cmpEntry_ne (@PySem.W.check_slot (model prog w) _ _ _ "object.__ne__" "object" "__ne__" (.ref x) [b] [] _ PySem.F.cmpKind_ne PySem.F.cmpSplit_ne top (PySem.F.cmpArgs_ne _ _) ?_))
    unfold Builtin.«object.__ne__»
    repeat (first | with_reducible refine wpAny_cRoomFor hu ?_ | with_reducible refine PySem.W.ifBound_K inK J fi isf (wpAny_mono h ?_ fun _ _ z => z) | wp_step)
    rintro v s' ⟨r, rfl, q⟩
    refine wpAny_bind (wpAny_truthy_bool (wpAny_pure ?_))
    exact ⟨_, rfl, q⟩
  simp only [tryCompare, callSpecialIfBound?, bindSpecialIfBound?]
  refine wpAny_bind (wpAny_holding (wpAny_bind (wpAny_bind (wpAny_bind (J.type.here ((PySem.W.looks_findIn inK hn).here ?_))))))
  refine wpAny_bind (wpAny_askSetting (wpAny_ite ?_))
  have fin : wpAny (model prog w) A (call (.builtin "object.__ne__") ([.ref x] ++ [b]) >>= fun v => pure (some v)) (fun a s' =>
      wpAny (model prog w) A (match a with | some Value.notImplemented => pure none | none => pure none | some z => pure (some z)) (fun r s' => ∃ v, r = some v ∧ Q v s') E s') E s := by
    refine wpAny_bind (wpAny_mono go ?_ fun _ _ z => z)
    rintro v s' ⟨r, rfl, q⟩
    exact wpAny_pure (wpAny_pure ⟨_, rfl, q⟩)
  have lk : PySem.W.Looks (model prog w) s.heap (bindSpecial (.builtin "object.__ne__") (.ref x)) (.builtin "object.__ne__", [.ref x]) := PySem.W.Looks.of_pure (one_bind _)
  split
  · exact wpAny_bind (lk.here (wpAny_pure (by exact fin)))
  · exact wpAny_tryCatch (wpAny_bind (lk.here (wpAny_pure (by exact fin))))
/-- str(o), o of an own class with a __str__ -/
def rStrO (C : Addr) (sp : Sp) : List V → Hp → VK → Prop := fun xs H Q => ∃ a dx fs, xs = [.ref a] ∧ H a = some (.ins C dx fs) ∧ sp [.ref a] H (fun v H' => ∃ z, v = .str z ∧ Q (.str z) H') E0
/-- the type that decides which side is asked first -/
structure RightOk (K : PySem.W.Frag) (C : Addr) (H : Hp) (y : V) : Prop where
  ex : ∃ t, TyX K H y t ∧ PySem.W.notFirst K C t = true
def rCmpO (K : PySem.W.Frag) (C : Addr) (sp : Sp) (neg : Bool → Bool) : R2 := fun x y H Q => ∃ a dx fs, x = .ref a ∧ H a = some (.ins C dx fs) ∧ RightOk K C H y ∧ sp [.ref a, y] H (fun v H' => ∃ b, v = .bl b ∧ Q (.bl (neg b)) H') E0
def tCallI (C : Addr) (sp : Sp) (tf : TE) (t : TA) : TE := fun σ H Q => tf σ H fun y H1 => ∃ a, y = V.ref a ∧ t σ H1 fun vs H2 => (∃ dx fs, H2 a = some (.ins C dx fs)) ∧ sp (V.ref a :: vs) H2 Q E0
def tMakeN (C : Addr) : TE := fun _ H Q => ∀ a dx, H a = none → H dx = none → dx ≠ a → Q (.ref a) (upd (upd H dx (.own a)) a (.ins C dx []))
def rRepr (K : PySem.W.Frag) : List V → Hp → VK → Prop := fun xs H Q => ∃ (a : Addr) (d : PyData), xs = [.ref a] ∧ Dp K H (.ref a) d ∧ d.showable = true ∧ d.depth ≤ 20 ∧ d.shown.length ≤ sizeLine ∧ Q (.str d.shown) H
end GB

namespace G1
open PySem PySem.Spec PyProof.Rows L2 GB
section
variable {X : Cx} {CX : CXT} {k j : Nat} {f : Addr} {fd : FuncData} {ps : List Str} {sp : Sp} {ds : List Value} {dvs : List V} {E : XK}
theorem run_g {pins : List (Addr × Obj)} {σ : L2.St} {H : Hp} {s : Shared} {Q : VK} {us : List Value} {vs : List V} (F : FnOk X.prog X.w X.K X.mg X.base CX k f fd ps sp) (hr : Room k X.A) (hb : Binds X.K fd ps ds) (hd : Vals dvs ds) (hx : Passes CX X E)
    (I : Inv X pins σ H s) (r : Vals vs us) (h : sp (vs ++ dvs) H Q E) : wpAny (model X.prog X.w) X.A (call (.ref f) us) (EP X pins σ Q) X.xe s := by
  have both := r.append hd
  have n : (us ++ ds).length = ps.length := both.length.symm.trans (F.len _ _ _ _ h)
  refine wpAny_call (codeAny_mono (F.run X.A X.stack s H ⟨us, []⟩ _ _ Q E hr I.env0 (hb s us I.kIn n) both h) fun res s' hq => ?_)
  match res, hq with
  | .error e, hq => exact hx pins σ H s e s' I hq
  | .ok (.ret u), hq => exact I.after hq
  | .ok .next, hq => exact False.elim hq
  | .ok .brk, hq => exact False.elim hq
  | .ok .cont, hq => exact False.elim hq
end

/-- a def of the text by its name -/
structure Cal (P : Program) (w : World) (K : PySem.W.Frag) (mg : Str → Option Value) (base : Heap) (k : Nat) (x : Str) (sp : Sp) : Prop where
  ex : ∃ (f : Addr) (fd : FuncData) (ps : List Str), FnOk P w K mg base CX0 k f fd ps sp ∧ mg x = some (.ref f) ∧ PySem.W.keepIn K (.ref f) = true ∧ Binds K fd ps []
section
variable {P : Program} {w : World} {K : PySem.W.Frag} {mg : Str → Option Value} {base : Heap}
theorem cal {k : Nat} {x : Str} {st : Stmt} {N ps : List Str} {sp : Sp} (D : Dfn K mg x st) (S : FnScope N ps (defScope st))
    (hb : ∀ (kV doc pm : Value) (an : Option Addr) (cdv ct : Value) (us : List Value), us.length = ps.length → bindArgs (PySem.W.fnOf x x (defArgs st) (defBody st) (defScope st) .none kV doc pm an cdv ct) ⟨us, []⟩ = pure (ps.zip us))
    (len : ∀ vs H Q E, sp vs H Q E → vs.length = ps.length)
    (body : ∀ (f : Addr) (cdv : Value) (A : Around) (outer : List Env) (s : Shared) (H : Hp) (vs : List V) (Q : VK) (E : XK),
      Room k (A.deeper (envOfC x (defScope st) s.heap.objs.size f cdv)) → sp vs H Q E →
      ∃ t, PSs (cxOf CX0 P w K mg base N x (defScope st) f cdv A outer s H E).nox (defBody st) t ∧ t { nx := fun _ H' => Q .non H', rt := Q } (start N vs) H) :
    Cal P w K mg base (k + 1) x sp := by
  obtain ⟨f, fd, F, m⟩ := D.ex
  exact ⟨f, fd, ps, F.ok S len (body f), m, F.kp, F.binds hb⟩
end
section
variable {X : Cx} {k j : Nat} {C : Addr} {x m : Str} {sp : Sp} {p pos apos : Pos} {e o : Expr} {es : List Expr} {ta : TE} {t : TA}
theorem pe_c (c : Cal X.prog X.w X.K X.mg X.base k x sp) (hr : Room j X.A) (hk : k ≤ j) (hg : Gl X x) (ha : PA X (e :: es) t)
    (hdb : (x == ("__debug__" : Str)) = false := by decide) (he : starEach (e :: es) X.env = (false, eval e X.env) :: starEach es X.env := by rfl) (hpl : (backTo pos (starEach es X.env)).any (·.1) = false := by rfl) :
    PE X (.Call (.Name x p) (e :: es) [] pos) (tCall sp [] E0 t) := by
  obtain ⟨f, fd, ps, F, hm, kp, b⟩ := c.ex
  refine ⟨fun pins s σ H Q I h => wpAny_Call_Name_kw (ld_glob I hg hm ?_ hdb)⟩
  refine PySem.W.callWith_K (h₀ := X.base) I.ok.mod.kin kp (thn (ha.run pos pins s σ H _ I h) fun us s1 ⟨vs, H1, I1, r, q⟩ => ⟨I1.kIn, ?_⟩) he hpl
  exact run_g F (hr.mono hk) b .nil pass0 I1 r q
end

/-- a method's promise -/
structure Met (P : Program) (w : World) (K : PySem.W.Frag) (mg : Str → Option Value) (base : Heap) (k : Nat) (C : Addr) (m : Str) (sp : Sp) : Prop where
  ex : ∃ (f : Addr) (fd : FuncData) (ps : List Str), FnOk P w K mg base CX0 k f fd ps sp ∧ PySem.W.findIn K (.ref C) m = some (some (.ref f)) ∧ PySem.W.isFn K (.ref f) = true ∧ PySem.W.keepIn K (.ref f) = true ∧ Binds K fd ps []
section
variable {P : Program} {w : World} {K : PySem.W.Frag} {mg : Str → Option Value} {base : Heap}
theorem met {k : Nat} {C : Addr} {m qual : Str} {st : Stmt} {N ps : List Str} {sp : Sp} (D : Mth K C m qual st) (S : FnScope N ps (defScope st))
    (hb : ∀ (kV doc pm : Value) (an : Option Addr) (cdv ct : Value) (us : List Value), us.length = ps.length → bindArgs (PySem.W.fnOf m qual (defArgs st) (defBody st) (defScope st) .none kV doc pm an cdv ct) ⟨us, []⟩ = pure (ps.zip us))
    (len : ∀ vs H Q E, sp vs H Q E → vs.length = ps.length)
    (body : ∀ (f : Addr) (cdv : Value) (A : Around) (outer : List Env) (s : Shared) (H : Hp) (vs : List V) (Q : VK) (E : XK),
      Room k (A.deeper (envOfC qual (defScope st) s.heap.objs.size f cdv)) → sp vs H Q E →
      ∃ t, PSs (cxOf CX0 P w K mg base N qual (defScope st) f cdv A outer s H E).nox (defBody st) t ∧ t { nx := fun _ H' => Q .non H', rt := Q } (start N vs) H) :
    Met P w K mg base (k + 1) C m sp := by
  obtain ⟨f, fd, F, a, i⟩ := D.ex
  exact ⟨f, fd, ps, F.ok S len (body f), a, i, F.kp, F.binds hb⟩
end
section
variable {X : Cx} {k j : Nat} {C : Addr} {x m : Str} {sp : Sp} {p pos apos : Pos} {e o : Expr} {es : List Expr} {ta : TE} {t : TA}
/-- an instance made, its __init__ run -/
theorem run_mkg {pins : List (Addr × Obj)} {σ : L2.St} {H : Hp} {s : Shared} {Q : VK} {us : List Value} {vs : List V} (Kc : Kls X.K X.mg x C) (c : Met X.prog X.w X.K X.mg X.base k C "__init__" sp) (hr : Room (k + 1) X.A)
    (I : Inv X pins σ H s) (r : Vals vs us)
    (h : ∀ a dx, H a = none → H dx = none → dx ≠ a → sp (.ref a :: vs) (upd (upd H dx (.own a)) a (.ins C dx [])) (fun v H2 => v = .non ∧ Q (.ref a) H2) E0) :
    wpAny (model X.prog X.w) X.A (call (.ref C) us) (EP X pins σ Q) X.xe s := by
  obtain ⟨f, fd, ps, F, fi, isf, kf, hb⟩ := c.ex
  have q0 := h (s.heap.objs.size + 1) s.heap.objs.size (I.hok.fresh (Nat.le_succ _)) (I.hok.fresh (Nat.le_refl _)) (Nat.ne_of_lt (Nat.lt_succ_self _))
  have I2 := Inv.made (C := C) I
  have r2 : Vals (V.ref (s.heap.objs.size + 1) :: vs) (Value.ref (s.heap.objs.size + 1) :: us) := .cons rfl r
  have n : (Value.ref (s.heap.objs.size + 1) :: us).length = ps.length := r2.length.symm.trans (F.len _ _ _ _ q0)
  have hbd := hb { s with heap := (s.heap.push PySem.W.emptyDict).push (PySem.W.instObj C s.heap.objs.size) } (Value.ref (s.heap.objs.size + 1) :: us) I2.kIn (by rw [List.append_nil]; exact n)
  rw [List.append_nil] at hbd
  refine wpAny_call (make_map (f := f) I.kIn Kc.makes fi (beq_iff_eq.mp isf) (codeAny_mono (F.run _ X.stack _ _ ⟨Value.ref (s.heap.objs.size + 1) :: us, []⟩ (Value.ref (s.heap.objs.size + 1) :: us) _ _ E0 (hr.make C us [])
    (I2.env0.make C us []) hbd r2 q0) fun res s' hq => ?_))
  match res, hq with
  | .error e, hq => exact False.elim hq
  | .ok .next, hq => exact False.elim hq
  | .ok .brk, hq => exact False.elim hq
  | .ok .cont, hq => exact False.elim hq
  | .ok (.ret u), hq =>
    obtain ⟨v, H', I3, rv, ev, q3⟩ := I2.after hq
    subst ev
    exact ⟨rv, ⟨V.ref (s.heap.objs.size + 1), H', I3, rfl, q3⟩⟩
theorem pe_mk (Kc : Kls X.K X.mg x C) (c : Met X.prog X.w X.K X.mg X.base k C "__init__" sp) (hr : Room j X.A) (hk : k + 1 ≤ j) (hg : Gl X x) (ha : PA X (e :: es) t)
    (hdb : (x == ("__debug__" : Str)) = false := by decide) (he : starEach (e :: es) X.env = (false, eval e X.env) :: starEach es X.env := by rfl) (hpl : (backTo pos (starEach es X.env)).any (·.1) = false := by rfl) :
    PE X (.Call (.Name x p) (e :: es) [] pos) (tMake C sp [] E0 t) := by
  refine ⟨fun pins s σ H Q I h => wpAny_Call_Name_kw (ld_glob I hg Kc.at_ ?_ hdb)⟩
  refine PySem.W.callWith_K (h₀ := X.base) I.ok.mod.kin Kc.kp (thn (ha.run pos pins s σ H _ I h) fun us s1 ⟨vs, H1, I1, r, q⟩ => ⟨I1.kIn, ?_⟩) he hpl
  refine run_mkg Kc c (hr.mono hk) I1 r fun a dx n1 n2 n3 => ?_
  have z := q a dx n1 n2 n3
  rwa [List.append_nil] at z
/-- C() of a class that has no __init__ of its own -/
theorem run_mkn {pins : List (Addr × Obj)} {σ : L2.St} {H : Hp} {s : Shared} {Q : VK} (Kc : Kls X.K X.mg x C) (hi : PySem.W.findIn X.K (.ref C) "__init__" = some (some (.builtin "object.__init__")))
    (I : Inv X pins σ H s) (h : ∀ a dx, H a = none → H dx = none → dx ≠ a → Q (.ref a) (upd (upd H dx (.own a)) a (.ins C dx []))) :
    wpAny (model X.prog X.w) X.A (call (.ref C) []) (EP X pins σ Q) X.xe s := by
  have q0 := h (s.heap.objs.size + 1) s.heap.objs.size (I.hok.fresh (Nat.le_succ _)) (I.hok.fresh (Nat.le_refl _)) (Nat.ne_of_lt (Nat.lt_succ_self _))
  have I2 := Inv.made (C := C) I
  obtain ⟨hh, g, d, tk, os⟩ := s
  have Y := PySem.W.makes_of (M := model X.prog X.w) I.kIn Kc.makes
  have e2 : ((hh.push PySem.W.emptyDict).push (PySem.W.instObj C hh.objs.size)).get? (hh.objs.size + 1) = some (PySem.W.instObj C hh.objs.size) := by
    have z := Heap.get?_push_size (hh.push PySem.W.emptyDict) (o := PySem.W.instObj C hh.objs.size) rfl
    rwa [Heap.size_push] at z
  refine wpAny_call (make_map0 I.kIn Kc.makes hi (fun self => PySem.W.Looks.of_pure (PySem.W.oi_bind self)) ?_)
  have t1 : PySem.W.Looks (model X.prog X.w) ((hh.push PySem.W.emptyDict).push (PySem.W.instObj C hh.objs.size)) (typeOf (.ref (hh.objs.size + 1))) (.ref C) := (PySem.W.Looks.ld e2).andThen .now
  have t2 : PySem.W.Looks (model X.prog X.w) ((hh.push PySem.W.emptyDict).push (PySem.W.instObj C hh.objs.size)) (isInstance (.ref (hh.objs.size + 1)) (.type "object")) true :=
    t1.andThen (Y.top.keeps fun b o e => Heap.get?_push_of_some _ (Heap.get?_push_of_some _ e))
  refine codeAny_call_builtin PySem.W.oi_plain PySem.W.entry_oi (@PySem.W.check_slot (model X.prog X.w) _ _ _ "object.__init__" "object" "__init__" _ [] [] _ PySem.W.oi_kind PySem.W.oi_split t2 (PySem.W.oi_args _) ?_)
  rw [PySem.W.oi_run]
  exact wpAny_pure (And.intro rfl ⟨V.ref (hh.objs.size + 1), _, I2, rfl, q0⟩)
theorem pe_mkn (Kc : Kls X.K X.mg x C) (hi : PySem.W.findIn X.K (.ref C) "__init__" = some (some (.builtin "object.__init__"))) (hg : Gl X x)
    (hdb : (x == ("__debug__" : Str)) = false := by decide) : PE X (.Call (.Name x p) [] [] pos) (tMakeN C) := by
  refine ⟨fun pins s σ H Q I h => wpAny_Call_Name_kw (ld_glob I hg Kc.at_ ?_ hdb)⟩
  exact PySem.W.callWith_K0 I.kIn Kc.kp (run_mkn Kc hi I h)
end
section
variable {X : Cx} {k j : Nat} {C : Addr} {x m : Str} {sp : Sp} {p pos apos : Pos} {e o fe : Expr} {es : List Expr} {ta tf : TE} {t : TA}
/-- o.m(e, ..) -/
theorem pe_mt {pl : Sem Bool} (cl : Cls X.K C) (c : Met X.prog X.w X.K X.mg X.base k C m sp) (hr : Room j X.A) (hk : k ≤ j) (ho : PE X o ta) (ha : PA X (e :: es) t)
    (hst : starEach (e :: es) X.env = (false, eval e X.env) :: starEach es X.env := by rfl) (hpl : (backTo pos (starEach es X.env)).any (·.1) = false := by rfl)
    (ht : eval (.Call (.Attribute o m apos) (e :: es) [] pos) X.env = (do
      let recv ← eval o X.env
      standAt apos.atName
      let (fn, one) ← holding [recv] (getMethod recv m pl)
      callWith pos fn one (backTo pos (starEach (e :: es) X.env)) (backToKw pos (keywordEach [] X.env))) := by rfl) :
    PE X (.Call (.Attribute o m apos) (e :: es) [] pos) (tMeth C m sp [] E0 ta t) := by
  obtain ⟨f, fd, ps, F, fi, isf, kf, b⟩ := c.ex
  refine ⟨fun pins s σ H Q I h => PySem.W.methodCall_KW (pl := pl) (thn (ho.run pins s σ H _ I h) ?_) ht⟩
  rintro u s1 ⟨y, H1, I1, ry, a, dx, fs, rfl, ea, l, q⟩
  obtain rfl : u = Value.ref a := ry
  refine getmeth_ok I1 ea cl ⟨fi, isf, kf⟩ l ?_
  refine PySem.W.callWith_K (first := [.ref a]) (h₀ := X.base) I.ok.mod.kin kf (thn (ha.run pos pins s1 σ H1 _ I1 q) ?_) hst hpl
  rintro us s2 ⟨vs, H2, I2, r, q2⟩
  exact ⟨I2.kIn, run_g (us := .ref a :: us) (vs := .ref a :: vs) F (hr.mono hk) b .nil pass0 I2 (.cons rfl r) q2⟩
theorem pe_mt0 {pl : Sem Bool} (cl : Cls X.K C) (c : Met X.prog X.w X.K X.mg X.base k C m sp) (hr : Room j X.A) (hk : k ≤ j) (ho : PE X o ta)
    (ht : eval (.Call (.Attribute o m apos) [] [] pos) X.env = (do
      let recv ← eval o X.env
      standAt apos.atName
      let (fn, one) ← holding [recv] (getMethod recv m pl)
      callWith pos fn one (backTo pos (starEach [] X.env)) (backToKw pos (keywordEach [] X.env))) := by rfl) :
    PE X (.Call (.Attribute o m apos) [] [] pos) (tMeth C m sp [] E0 ta tNil) := by
  obtain ⟨f, fd, ps, F, fi, isf, kf, b⟩ := c.ex
  refine ⟨fun pins s σ H Q I h => PySem.W.methodCall_KW (pl := pl) (thn (ho.run pins s σ H _ I h) ?_) ht⟩
  rintro u s1 ⟨y, H1, I1, ry, a, dx, fs, rfl, ea, l, q⟩
  obtain rfl : u = Value.ref a := ry
  refine getmeth_ok I1 ea cl ⟨fi, isf, kf⟩ l ?_
  exact PySem.W.callWith_K0 (first := [.ref a]) I1.kIn kf (run_g (us := [.ref a]) (vs := [.ref a]) F (hr.mono hk) b .nil pass0 I1 (.cons rfl .nil) q)
/-- f(e, ..) where f gives an instance whose class has a __call__ -/
theorem pe_co (c : Met X.prog X.w X.K X.mg X.base k C "__call__" sp) (fn : ∀ f, PySem.W.findIn X.K (.ref C) "__call__" = some (some (.ref f)) → PySem.W.fnIn X.K f = true) (hr : Room j X.A) (hk : k ≤ j) (hf : PE X fe tf) (ha : PA X (e :: es) t)
    (ht : eval (.Call fe (e :: es) [] pos) X.env = (do callWith pos (← eval fe X.env) [] (backTo pos (starEach (e :: es) X.env)) (backToKw pos (keywordEach [] X.env))) := by rfl)
    (he : starEach (e :: es) X.env = (false, eval e X.env) :: starEach es X.env := by rfl) (hpl : (backTo pos (starEach es X.env)).any (·.1) = false := by rfl) : PE X (.Call fe (e :: es) [] pos) (tCallI C sp tf t) := by
  obtain ⟨f, fd, ps, F, fi, isf, kf, b⟩ := c.ex
  refine ⟨fun pins s σ H Q I h => Call_ (thn (hf.run pins s σ H _ I h) ?_) ht⟩
  rintro u s1 ⟨y, H1, I1, ry, a, rfl, q⟩
  obtain rfl : u = Value.ref a := ry
  refine StX.callO_with (thn (ha.run pos pins s1 σ H1 _ I1 q) ?_) he hpl
  rintro us s2 ⟨vs, H2, I2, r, ⟨dx, fs, hi⟩, q2⟩
  obtain ⟨mA, O, _⟩ := ins_get I2.hok hi
  obtain ⟨od, J, _⟩ := O.look
  refine ⟨⟨C, _, _, J, rfl⟩, ?_⟩
  have both : Vals (V.ref a :: vs) (Value.ref a :: us) := .cons rfl r
  have n : (Value.ref a :: us).length = ps.length := both.length.symm.trans (F.len _ _ _ _ q2)
  have hbd := b s2 (Value.ref a :: us) I2.kIn (by rw [List.append_nil]; exact n)
  rw [List.append_nil] at hbd
  refine wpAny_call (PySem.W.kco_code I2.kIn J rfl fi isf (fn f fi) (codeAny_mono (F.run X.A X.stack s2 H2 ⟨Value.ref a :: us, []⟩ _ _ Q E0 (hr.mono hk) I2.env0 hbd both q2) ?_))
  intro res s' hq
  match res, hq with
  | .error e, hq => exact False.elim hq
  | .ok (.ret u), hq => exact I2.after hq
  | .ok .next, hq => exact False.elim hq
  | .ok .brk, hq => exact False.elim hq
  | .ok .cont, hq => exact False.elim hq
end
section
variable {X : Cx} {j : Nat}
/-- xs != [], xs == [] -/
theorem op_neNil (hr : Room j X.A) : OpR X (compareOp .NotEq) (fun x y H Q => ∃ a b xs, x = .ref a ∧ y = .ref b ∧ SqL X.K H a xs ∧ SqL X.K H b [] ∧ Q (.bl (!xs.isEmpty)) H) := by
  intro pins s σ H x y v u Q I rx ry h
  obtain ⟨a, b, xs, rfl, rfl, ha, hb, q⟩ := h
  obtain rfl : v = Value.ref a := rx
  obtain rfl : u = Value.ref b := ry
  obtain ⟨its, r1, p1, _⟩ := I.list ha
  obtain ⟨js, r2, p2, _⟩ := I.list hb
  cases r2
  have fin : ∀ k, k = (!xs.isEmpty) → EP X pins σ Q (.bool k) s := fun k e => ⟨.bl _, H, I, e ▸ rfl, q⟩
  cases xs with
  | nil =>
    cases r1
    exact SeqAt.RcNeAt.lists (e := fun _ => true) p1.isList p2.isList rfl hr.units0 (fun j h1 => absurd h1 (by simp)) X.prog X.w X.xe _ (fin _ (by simp))
  | cons z zs =>
    cases r1
    exact SeqAt.RcNeAt.lists_lengths p1.isList p2.isList (by simp) hr.units0 X.prog X.w X.xe _ (fin _ (by simp))
theorem op_eqNil (hr : Room j X.A) : OpR X (compareOp .Eq) (fun x y H Q => ∃ a b xs, x = .ref a ∧ y = .ref b ∧ SqL X.K H a xs ∧ SqL X.K H b [] ∧ Q (.bl xs.isEmpty) H) := by
  intro pins s σ H x y v u Q I rx ry h
  obtain ⟨a, b, xs, rfl, rfl, ha, hb, q⟩ := h
  obtain rfl : v = Value.ref a := rx
  obtain rfl : u = Value.ref b := ry
  obtain ⟨its, r1, p1, _⟩ := I.list ha
  obtain ⟨js, r2, p2, _⟩ := I.list hb
  cases r2
  have fin : ∀ k, k = xs.isEmpty → EP X pins σ Q (.bool k) s := fun k e => ⟨.bl _, H, I, e ▸ rfl, q⟩
  cases xs with
  | nil =>
    cases r1
    exact SeqAt.RcAt.lists (e := fun _ => true) p1.isList p2.isList rfl hr.units0 (fun j h1 => absurd h1 (by simp)) X.prog X.w X.xe _ (fin _ (by simp))
  | cons z zs =>
    cases r1
    exact SeqAt.RcAt.lists_lengths p1.isList p2.isList (by simp) hr.units0 X.prog X.w X.xe _ (fin _ (by simp))
end
section
variable {X : Cx} {j : Nat}
theorem op_eqTI (hr : Room j X.A) : OpR X (compareOp .Eq) (rEqTI X.K) := by
  intro pins s σ H x y v u Q I rx ry h
  obtain ⟨t, t', ns, ms, rfl, rfl, h1, h2, q⟩ := h
  refine op_eqD hr.units pins s σ H _ _ v u Q I rx ry ⟨_, _, .tup h1 (dpInts ns), .tup h2 (dpInts ms), shapedTI ns, shapedTI ms, ?_⟩
  rw [PyData.eqv, eqvInts]
  exact q
theorem op_neTI (hr : Room j X.A) : OpR X (compareOp .NotEq) (rNeTI X.K) := by
  intro pins s σ H x y v u Q I rx ry h
  obtain ⟨t, t', ns, ms, rfl, rfl, h1, h2, q⟩ := h
  refine op_neD hr.units pins s σ H _ _ v u Q I rx ry ⟨_, _, .tup h1 (dpInts ns), .tup h2 (dpInts ms), shapedTI ns, shapedTI ms, ?_⟩
  rw [PyData.eqv, eqvInts]
  exact q
end
/-- a def called where X.A's frames run, from a place further in -/
theorem run_gAt {X : Cx} {k : Nat} {f : Addr} {fd : FuncData} {ps : List Str} {sp : Sp} {A : Around} {pins : List (Addr × Obj)} {σ : L2.St} {H : Hp} {s : Shared} {Q : VK} {us : List Value} {vs : List V} {E : Value → Shared → Prop}
    (F : FnOk X.prog X.w X.K X.mg X.base CX0 k f fd ps sp) (hr : Room k A) (fr : A.frames = X.A.frames) (hb : Binds X.K fd ps []) (I : Inv X pins σ H s) (r : Vals vs us) (h : sp vs H Q E0) :
    wpAny (model X.prog X.w) A (call (.ref f) us) (EP X pins σ Q) E s := by
  have n : (us ++ []).length = ps.length := by rw [List.append_nil, ← r.length]; exact F.len _ _ _ _ h
  have bd := hb s us I.kIn n
  rw [List.append_nil] at bd
  have e := I.env0
  have e0 : Env0 X.prog X.w X.K X.mg X.base A X.stack s H := { frames := fr.trans e.frames, mod := e.mod, bs := e.bs, bsz := e.bsz, funs := e.funs, frf := e.frf, hok := e.hok, bare := e.bare }
  refine wpAny_call (codeAny_mono (F.run A X.stack s H ⟨us, []⟩ _ _ Q E0 hr e0 bd r h) fun res s' hq => ?_)
  match res, hq with
  | .error e, hq => exact False.elim hq
  | .ok (.ret u), hq => exact I.after hq
  | .ok .next, hq => exact False.elim hq
  | .ok .brk, hq => exact False.elim hq
  | .ok .cont, hq => exact False.elim hq
section
variable {X : Cx} {k j : Nat} {C : Addr} {sp : Sp}
theorem call_strO (c : Met X.prog X.w X.K X.mg X.base k C "__str__" sp) (hr : Room j X.A) (hk : k + 2 ≤ j) : CallR X (.type "str") (rStrO C sp) := by
  intro pins s σ H xs us Q I r h
  obtain ⟨a, dx, fs, rfl, ha, q⟩ := h
  obtain ⟨u, rfl, ru⟩ := vals1 r
  obtain rfl : u = Value.ref a := ru
  obtain ⟨f, fd, ps, F, fi, isf, kf, b⟩ := c.ex
  obtain ⟨ox, od, J⟩ := inst_at I ha
  have r2 : Room (k + 2) X.A := hr.mono hk
  refine PySem.W.kso_call (f := f) r2.in1.in1.units0 I.kIn J fi isf (thn (run_gAt (vs := [.ref a]) F r2.in1.in1 rfl b I (.cons rfl .nil) q) ?_)
  rintro v s' ⟨z, H', I', rz, y, rfl, qz⟩
  obtain ⟨t, rfl⟩ := rz
  exact ⟨.str y, H', I', ⟨t, rfl⟩, qz⟩
theorem op_eqO (c : Met X.prog X.w X.K X.mg X.base k C "__eq__" sp) (hr : Room j X.A) (hk : k ≤ j) : OpR X (compareOp .Eq) (rCmpO X.K C sp id) := by
  intro pins s σ H x y v u Q I rx ry h
  obtain ⟨a, dx, fs, rfl, ha, ⟨t, ty, nf⟩, q⟩ := h
  obtain rfl : v = Value.ref a := rx
  obtain ⟨f, fd, ps, F, fi, isf, kf, b⟩ := c.ex
  obtain ⟨ox, od, J⟩ := inst_at I ha
  obtain ⟨Pr, kx, pr, _⟩ := kit_of I ry ty
  obtain ⟨m, hF⟩ := I.fr
  refine PySem.W.cmp_K (op := .Eq) (tb := t) hr.units0 hF I.ok.mod.kin J (kx.ty _ _ I.kIn pr) nf fi isf (thn (run_gAt (vs := [.ref a, y]) F (hr.mono hk) rfl b I (.cons rfl (.cons ry .nil)) q) ?_)
  rintro z s' ⟨w', H', I', rz, r, rfl, qz⟩
  cases rz
  exact ⟨.bl r, H', I', rfl, qz⟩
theorem op_neO (c : Met X.prog X.w X.K X.mg X.base k C "__eq__" sp) (hn : PySem.W.findIn X.K (.ref C) "__ne__" = some (some (.builtin "object.__ne__"))) (mk : PySem.W.makesIn X.K C = true) (hr : Room j X.A) (hk : k + 1 ≤ j) :
    OpR X (compareOp .NotEq) (rCmpO X.K C sp not) := by
  intro pins s σ H x y v u Q I rx ry h
  obtain ⟨a, dx, fs, rfl, ha, ⟨t, ty, nf⟩, q⟩ := h
  obtain rfl : v = Value.ref a := rx
  obtain ⟨f, fd, ps, F, fi, isf, kf, b⟩ := c.ex
  obtain ⟨ox, od, J⟩ := inst_at I ha
  obtain ⟨Pr, kx, pr, _⟩ := kit_of I ry ty
  have r1 : Room (k + 1) X.A := hr.mono hk
  have top : PySem.W.Looks (model X.prog X.w) s.heap (isInstance (.ref a) (.type "object")) true := J.type.andThen (PySem.W.makes_of (M := model X.prog X.w) I.kIn mk).top
  refine cmp_one (op := .NotEq) hr.units0 I.kIn J (kx.ty _ _ I.kIn pr) nf (ne_own r1.in1.units0 I.kIn J top hn fi isf (thn (run_gAt (vs := [.ref a, y]) F r1.in1 rfl b I (.cons rfl (.cons ry .nil)) q) ?_))
  rintro z s' ⟨w', H', I', rz, r, rfl, qz⟩
  cases rz
  exact ⟨r, rfl, .bl (!r), H', I', rfl, qz⟩
end
end G1

namespace G0
open PySem PySem.Spec PyProof.Rows L2 GB
/-- room for k calls, and no repr is under way around -/
structure RoomG (k : Nat) (A : Around) : Prop where
  rm : Room k A
  gd : A.guards = some []
theorem RoomG.mono {j k : Nat} {A : Around} (r : RoomG k A) (h : j ≤ k) : RoomG j A := ⟨r.rm.mono h, r.gd⟩
theorem RoomG.deeper {k : Nat} {A : Around} (r : RoomG (k + 1) A) (env : Env) : RoomG k (A.deeper env) := ⟨r.rm.deeper env, r.gd⟩
theorem RoomG.units {k : Nat} {A : Around} (r : RoomG k A) : A.units + 64 < cLine := r.rm.units
theorem RoomG.units0 {k : Nat} {A : Around} (r : RoomG k A) : A.units < cLine := r.rm.units0
theorem RoomG.u1 {k : Nat} {A : Around} (r : RoomG k A) : A.units + 1 < cLine := hu_of r.rm
theorem RoomG.make {k : Nat} {A : Around} (r : RoomG (k + 1) A) (C : Addr) (us : List Value) (kw : List (Str × Value)) : RoomG k (A.under (.builtin "type.__call__" ⟨.ref C :: us, kw⟩)) := by
  refine ⟨r.rm.make C us kw, ?_⟩
  have h : (Code.builtin "type.__call__" ⟨.ref C :: us, kw⟩).isGuard = false := by
    show guardIds.contains "type.__call__" = false
    decide +kernel
  have g := r.gd
  simp [Around.under, Code.guards, h, pushGuards, g]

section
variable (P : Program) (w : World) (K : PySem.W.Frag) (mg : Str → Option Value) (base : Heap) (CX : CXT)
/-- the def at f keeps sp wherever no repr is under way -/
structure FnG (k : Nat) (f : Addr) (fd : FuncData) (ps : List Str) (sp : Sp) : Prop where
  len : ∀ vs H Q E, sp vs H Q E → vs.length = ps.length
  run : ∀ (A : Around) (outer : List Env) (s : Shared) (H : Hp) (args : Args) (us : List Value) (vs : List V) (Q : VK) (E : XK),
    RoomG k A → Env0 P w K mg base A outer s H → BindsTo s fd args (ps.zip us) → Vals vs us → sp vs H Q E →
    codeAny (model P w) A (.call (.ref f) args) (CR CX outer P w H s Q E) s
end
section
variable {P : Program} {w : World} {K : PySem.W.Frag} {mg : Str → Option Value} {base : Heap} {CX : CXT} {k j : Nat} {f : Addr} {fd : FuncData} {ps : List Str} {sp : Sp}
theorem FnG.mono (F : FnG P w K mg base CX j f fd ps sp) (h : j ≤ k) : FnG P w K mg base CX k f fd ps sp :=
  ⟨F.len, fun A outer s H args us vs Q E hr => F.run A outer s H args us vs Q E (hr.mono h)⟩
theorem FnG.imp {sp' : Sp} (F : FnG P w K mg base CX k f fd ps sp) (h : ∀ vs H Q E, sp' vs H Q E → sp vs H Q E) : FnG P w K mg base CX k f fd ps sp' :=
  ⟨fun vs H Q E q => F.len vs H Q E (h _ _ _ _ q), fun A outer s H args us vs Q E hr e0 b r q => F.run A outer s H args us vs Q E hr e0 b r (h _ _ _ _ q)⟩
theorem ofOk (F : FnOk P w K mg base CX k f fd ps sp) : FnG P w K mg base CX k f fd ps sp :=
  ⟨F.len, fun A outer s H args us vs Q E hr => F.run A outer s H args us vs Q E hr.rm⟩

/-- a def by its body -/
theorem fng {x qual : Str} {st : Stmt} {N : List Str} (F : Fun K x qual st f fd) (S : FnScope N ps (defScope st)) (len : ∀ vs H Q E, sp vs H Q E → vs.length = ps.length)
    (body : ∀ (cdv : Value) (A : Around) (outer : List Env) (s : Shared) (H : Hp) (vs : List V) (Q : VK) (E : XK),
      RoomG k (A.deeper (envOfC qual (defScope st) s.heap.objs.size f cdv)) → sp vs H Q E →
      ∃ t, PSs (cxOf CX P w K mg base N qual (defScope st) f cdv A outer s H E) (defBody st) t ∧ t { nx := fun _ H' => Q .non H', rt := Q } (start N vs) H) :
    FnG P w K mg base CX (k + 1) f fd ps sp := by
  obtain ⟨oc, od, kV, doc, pm, an, cdv, ct, osl, hfd, lk, hcd⟩ := F.ex
  subst hfd
  refine ⟨len, fun A outer s H args us vs Q E room e0 hbind rv want => ?_⟩
  have n := len _ _ _ _ want
  have keepB : ∀ b o, base.get? b = some o → s.heap.get? b = some o := fun b o e => (e0.bs b o e).1
  have inK := e0.mod.kin.keeps keepB
  have noLim := e0.mod.nolimit.keeps keepB
  have kinds : ∀ y ∈ ps.zip us, (defScope st).names.lookup y.1 = some .local ∨ ((defScope st).names.lookup y.1 = some .cell ∧ ((cellsFrom (s.heap.objs.size + 1) (defScope st).names []).lookup y.1).isSome = true) := by
    rintro ⟨nm, v⟩ hy
    exact (S.par nm (List.of_mem_zip hy).1).elim .inl fun q => .inr ⟨q, PySem.W.cellsFrom_some _ _ _ (.inl q)⟩
  refine codeAny_call_function room.rm.depth (inK _ _ lk) rfl S.co S.gen rfl (PySem.W.codeRec_of inK hcd) (hbind _ _ _ _ (wpAny_newFunctionEnv_cells S.kind kinds ?_))
  rintro env rfl s1 x
  refine ⟨noLim.keeps x.toInCall.keep, codeAny_func ?_⟩
  obtain ⟨t, ht, hq⟩ := body cdv A outer s H vs Q E (room.deeper _) want
  refine wpAny_mono (ht.run [] s1 (start N vs) H _ (inv_start S room.rm.hd e0 n rv x) hq) (fun fl s' hs => ?_) fun _ _ hs => hs
  cases fl with
  | ret u => obtain ⟨v, σ', H', J, r, q⟩ := hs; exact ⟨v, H', J.os, J.bare, J.base, J.hok, r, q⟩
  | next => obtain ⟨σ', H', J, q⟩ := hs; exact ⟨V.non, H', J.os, J.bare, J.base, J.hok, rfl, q⟩
  | brk => obtain ⟨_, _, _, q⟩ := hs; exact q.elim
  | cont => obtain ⟨_, _, _, q⟩ := hs; exact q.elim
/-- .. nothing leaves it -/
theorem fng0 {x qual : Str} {st : Stmt} {N : List Str} (F : Fun K x qual st f fd) (S : FnScope N ps (defScope st)) (len : ∀ vs H Q E, sp vs H Q E → vs.length = ps.length)
    (body : ∀ (cdv : Value) (A : Around) (outer : List Env) (s : Shared) (H : Hp) (vs : List V) (Q : VK) (E : XK),
      RoomG k (A.deeper (envOfC qual (defScope st) s.heap.objs.size f cdv)) → sp vs H Q E →
      ∃ t, PSs (cxOf CX0 P w K mg base N qual (defScope st) f cdv A outer s H E).nox (defBody st) t ∧ t { nx := fun _ H' => Q .non H', rt := Q } (start N vs) H) :
    FnG P w K mg base CX0 (k + 1) f fd ps sp :=
  fng F S len fun cdv A outer s H vs Q E hr h => let ⟨t, a, b⟩ := body cdv A outer s H vs Q E hr h; ⟨t, a.nox, b⟩
end

theorem RoomG.in1 {k : Nat} {A : Around} (r : RoomG (k + 1) A) : RoomG k A.in1 := ⟨r.rm.in1, r.gd⟩
section
variable {X : Cx} {CX : CXT} {k j : Nat} {f : Addr} {fd : FuncData} {ps : List Str} {sp : Sp} {ds : List Value} {dvs : List V} {E : XK}
theorem run_g {pins : List (Addr × Obj)} {σ : L2.St} {H : Hp} {s : Shared} {Q : VK} {us : List Value} {vs : List V} (F : FnG X.prog X.w X.K X.mg X.base CX k f fd ps sp) (hr : RoomG k X.A) (hb : Binds X.K fd ps ds) (hd : Vals dvs ds) (hx : Passes CX X E)
    (I : Inv X pins σ H s) (r : Vals vs us) (h : sp (vs ++ dvs) H Q E) : wpAny (model X.prog X.w) X.A (call (.ref f) us) (EP X pins σ Q) X.xe s := by
  have both := r.append hd
  have n : (us ++ ds).length = ps.length := both.length.symm.trans (F.len _ _ _ _ h)
  refine wpAny_call (codeAny_mono (F.run X.A X.stack s H ⟨us, []⟩ _ _ Q E hr I.env0 (hb s us I.kIn n) both h) fun res s' hq => ?_)
  match res, hq with
  | .error e, hq => exact hx pins σ H s e s' I hq
  | .ok (.ret u), hq => exact I.after hq
  | .ok .next, hq => exact False.elim hq
  | .ok .brk, hq => exact False.elim hq
  | .ok .cont, hq => exact False.elim hq
end

/-- a def of the text by its name -/
structure Cal (P : Program) (w : World) (K : PySem.W.Frag) (mg : Str → Option Value) (base : Heap) (k : Nat) (x : Str) (sp : Sp) : Prop where
  ex : ∃ (f : Addr) (fd : FuncData) (ps : List Str), FnG P w K mg base CX0 k f fd ps sp ∧ mg x = some (.ref f) ∧ PySem.W.keepIn K (.ref f) = true ∧ Binds K fd ps []
section
variable {P : Program} {w : World} {K : PySem.W.Frag} {mg : Str → Option Value} {base : Heap}
theorem cal {k : Nat} {x : Str} {st : Stmt} {N ps : List Str} {sp : Sp} (D : Dfn K mg x st) (S : FnScope N ps (defScope st))
    (hb : ∀ (kV doc pm : Value) (an : Option Addr) (cdv ct : Value) (us : List Value), us.length = ps.length → bindArgs (PySem.W.fnOf x x (defArgs st) (defBody st) (defScope st) .none kV doc pm an cdv ct) ⟨us, []⟩ = pure (ps.zip us))
    (len : ∀ vs H Q E, sp vs H Q E → vs.length = ps.length)
    (body : ∀ (f : Addr) (cdv : Value) (A : Around) (outer : List Env) (s : Shared) (H : Hp) (vs : List V) (Q : VK) (E : XK),
      RoomG k (A.deeper (envOfC x (defScope st) s.heap.objs.size f cdv)) → sp vs H Q E →
      ∃ t, PSs (cxOf CX0 P w K mg base N x (defScope st) f cdv A outer s H E).nox (defBody st) t ∧ t { nx := fun _ H' => Q .non H', rt := Q } (start N vs) H) :
    Cal P w K mg base (k + 1) x sp := by
  obtain ⟨f, fd, F, m⟩ := D.ex
  exact ⟨f, fd, ps, fng0 F S len (body f), m, F.kp, F.binds hb⟩
end
section
variable {X : Cx} {k j : Nat} {C : Addr} {x m : Str} {sp : Sp} {p pos apos : Pos} {e o : Expr} {es : List Expr} {ta : TE} {t : TA}
theorem pe_c (c : Cal X.prog X.w X.K X.mg X.base k x sp) (hr : RoomG j X.A) (hk : k ≤ j) (hg : Gl X x) (ha : PA X (e :: es) t)
    (hdb : (x == ("__debug__" : Str)) = false := by decide) (he : starEach (e :: es) X.env = (false, eval e X.env) :: starEach es X.env := by rfl) (hpl : (backTo pos (starEach es X.env)).any (·.1) = false := by rfl) :
    PE X (.Call (.Name x p) (e :: es) [] pos) (tCall sp [] E0 t) := by
  obtain ⟨f, fd, ps, F, hm, kp, b⟩ := c.ex
  refine ⟨fun pins s σ H Q I h => wpAny_Call_Name_kw (ld_glob I hg hm ?_ hdb)⟩
  refine PySem.W.callWith_K (h₀ := X.base) I.ok.mod.kin kp (thn (ha.run pos pins s σ H _ I h) fun us s1 ⟨vs, H1, I1, r, q⟩ => ⟨I1.kIn, ?_⟩) he hpl
  exact run_g F (hr.mono hk) b .nil pass0 I1 r q
end

/-- a method's promise -/
structure Met (P : Program) (w : World) (K : PySem.W.Frag) (mg : Str → Option Value) (base : Heap) (k : Nat) (C : Addr) (m : Str) (sp : Sp) : Prop where
  ex : ∃ (f : Addr) (fd : FuncData) (ps : List Str), FnG P w K mg base CX0 k f fd ps sp ∧ PySem.W.findIn K (.ref C) m = some (some (.ref f)) ∧ PySem.W.isFn K (.ref f) = true ∧ PySem.W.keepIn K (.ref f) = true ∧ Binds K fd ps []
section
variable {P : Program} {w : World} {K : PySem.W.Frag} {mg : Str → Option Value} {base : Heap}
theorem met {k : Nat} {C : Addr} {m qual : Str} {st : Stmt} {N ps : List Str} {sp : Sp} (D : Mth K C m qual st) (S : FnScope N ps (defScope st))
    (hb : ∀ (kV doc pm : Value) (an : Option Addr) (cdv ct : Value) (us : List Value), us.length = ps.length → bindArgs (PySem.W.fnOf m qual (defArgs st) (defBody st) (defScope st) .none kV doc pm an cdv ct) ⟨us, []⟩ = pure (ps.zip us))
    (len : ∀ vs H Q E, sp vs H Q E → vs.length = ps.length)
    (body : ∀ (f : Addr) (cdv : Value) (A : Around) (outer : List Env) (s : Shared) (H : Hp) (vs : List V) (Q : VK) (E : XK),
      RoomG k (A.deeper (envOfC qual (defScope st) s.heap.objs.size f cdv)) → sp vs H Q E →
      ∃ t, PSs (cxOf CX0 P w K mg base N qual (defScope st) f cdv A outer s H E).nox (defBody st) t ∧ t { nx := fun _ H' => Q .non H', rt := Q } (start N vs) H) :
    Met P w K mg base (k + 1) C m sp := by
  obtain ⟨f, fd, F, a, i⟩ := D.ex
  exact ⟨f, fd, ps, fng0 F S len (body f), a, i, F.kp, F.binds hb⟩
end
section
variable {X : Cx} {k j : Nat} {C : Addr} {x m : Str} {sp : Sp} {p pos apos : Pos} {e o : Expr} {es : List Expr} {ta : TE} {t : TA}
/-- an instance made, its __init__ run -/
theorem run_mkg {pins : List (Addr × Obj)} {σ : L2.St} {H : Hp} {s : Shared} {Q : VK} {us : List Value} {vs : List V} (Kc : Kls X.K X.mg x C) (c : Met X.prog X.w X.K X.mg X.base k C "__init__" sp) (hr : RoomG (k + 1) X.A)
    (I : Inv X pins σ H s) (r : Vals vs us)
    (h : ∀ a dx, H a = none → H dx = none → dx ≠ a → sp (.ref a :: vs) (upd (upd H dx (.own a)) a (.ins C dx [])) (fun v H2 => v = .non ∧ Q (.ref a) H2) E0) :
    wpAny (model X.prog X.w) X.A (call (.ref C) us) (EP X pins σ Q) X.xe s := by
  obtain ⟨f, fd, ps, F, fi, isf, kf, hb⟩ := c.ex
  have q0 := h (s.heap.objs.size + 1) s.heap.objs.size (I.hok.fresh (Nat.le_succ _)) (I.hok.fresh (Nat.le_refl _)) (Nat.ne_of_lt (Nat.lt_succ_self _))
  have I2 := Inv.made (C := C) I
  have r2 : Vals (V.ref (s.heap.objs.size + 1) :: vs) (Value.ref (s.heap.objs.size + 1) :: us) := .cons rfl r
  have n : (Value.ref (s.heap.objs.size + 1) :: us).length = ps.length := r2.length.symm.trans (F.len _ _ _ _ q0)
  have hbd := hb { s with heap := (s.heap.push PySem.W.emptyDict).push (PySem.W.instObj C s.heap.objs.size) } (Value.ref (s.heap.objs.size + 1) :: us) I2.kIn (by rw [List.append_nil]; exact n)
  rw [List.append_nil] at hbd
  refine wpAny_call (make_map (f := f) I.kIn Kc.makes fi (beq_iff_eq.mp isf) (codeAny_mono (F.run _ X.stack _ _ ⟨Value.ref (s.heap.objs.size + 1) :: us, []⟩ (Value.ref (s.heap.objs.size + 1) :: us) _ _ E0 (hr.make C us [])
    (I2.env0.make C us []) hbd r2 q0) fun res s' hq => ?_))
  match res, hq with
  | .error e, hq => exact False.elim hq
  | .ok .next, hq => exact False.elim hq
  | .ok .brk, hq => exact False.elim hq
  | .ok .cont, hq => exact False.elim hq
  | .ok (.ret u), hq =>
    obtain ⟨v, H', I3, rv, ev, q3⟩ := I2.after hq
    subst ev
    exact ⟨rv, ⟨V.ref (s.heap.objs.size + 1), H', I3, rfl, q3⟩⟩
theorem pe_mk (Kc : Kls X.K X.mg x C) (c : Met X.prog X.w X.K X.mg X.base k C "__init__" sp) (hr : RoomG j X.A) (hk : k + 1 ≤ j) (hg : Gl X x) (ha : PA X (e :: es) t)
    (hdb : (x == ("__debug__" : Str)) = false := by decide) (he : starEach (e :: es) X.env = (false, eval e X.env) :: starEach es X.env := by rfl) (hpl : (backTo pos (starEach es X.env)).any (·.1) = false := by rfl) :
    PE X (.Call (.Name x p) (e :: es) [] pos) (tMake C sp [] E0 t) := by
  refine ⟨fun pins s σ H Q I h => wpAny_Call_Name_kw (ld_glob I hg Kc.at_ ?_ hdb)⟩
  refine PySem.W.callWith_K (h₀ := X.base) I.ok.mod.kin Kc.kp (thn (ha.run pos pins s σ H _ I h) fun us s1 ⟨vs, H1, I1, r, q⟩ => ⟨I1.kIn, ?_⟩) he hpl
  refine run_mkg Kc c (hr.mono hk) I1 r fun a dx n1 n2 n3 => ?_
  have z := q a dx n1 n2 n3
  rwa [List.append_nil] at z
/-- C() of a class that has no __init__ of its own -/
theorem run_mkn {pins : List (Addr × Obj)} {σ : L2.St} {H : Hp} {s : Shared} {Q : VK} (Kc : Kls X.K X.mg x C) (hi : PySem.W.findIn X.K (.ref C) "__init__" = some (some (.builtin "object.__init__")))
    (I : Inv X pins σ H s) (h : ∀ a dx, H a = none → H dx = none → dx ≠ a → Q (.ref a) (upd (upd H dx (.own a)) a (.ins C dx []))) :
    wpAny (model X.prog X.w) X.A (call (.ref C) []) (EP X pins σ Q) X.xe s := by
  have q0 := h (s.heap.objs.size + 1) s.heap.objs.size (I.hok.fresh (Nat.le_succ _)) (I.hok.fresh (Nat.le_refl _)) (Nat.ne_of_lt (Nat.lt_succ_self _))
  have I2 := Inv.made (C := C) I
  obtain ⟨hh, g, d, tk, os⟩ := s
  have Y := PySem.W.makes_of (M := model X.prog X.w) I.kIn Kc.makes
  have e2 : ((hh.push PySem.W.emptyDict).push (PySem.W.instObj C hh.objs.size)).get? (hh.objs.size + 1) = some (PySem.W.instObj C hh.objs.size) := by
    have z := Heap.get?_push_size (hh.push PySem.W.emptyDict) (o := PySem.W.instObj C hh.objs.size) rfl
    rwa [Heap.size_push] at z
  refine wpAny_call (make_map0 I.kIn Kc.makes hi (fun self => PySem.W.Looks.of_pure (PySem.W.oi_bind self)) ?_)
  have t1 : PySem.W.Looks (model X.prog X.w) ((hh.push PySem.W.emptyDict).push (PySem.W.instObj C hh.objs.size)) (typeOf (.ref (hh.objs.size + 1))) (.ref C) := (PySem.W.Looks.ld e2).andThen .now
  have t2 : PySem.W.Looks (model X.prog X.w) ((hh.push PySem.W.emptyDict).push (PySem.W.instObj C hh.objs.size)) (isInstance (.ref (hh.objs.size + 1)) (.type "object")) true :=
    t1.andThen (Y.top.keeps fun b o e => Heap.get?_push_of_some _ (Heap.get?_push_of_some _ e))
  refine codeAny_call_builtin PySem.W.oi_plain PySem.W.entry_oi (@PySem.W.check_slot (model X.prog X.w) _ _ _ "object.__init__" "object" "__init__" _ [] [] _ PySem.W.oi_kind PySem.W.oi_split t2 (PySem.W.oi_args _) ?_)
  rw [PySem.W.oi_run]
  exact wpAny_pure (And.intro rfl ⟨V.ref (hh.objs.size + 1), _, I2, rfl, q0⟩)
theorem pe_mkn (Kc : Kls X.K X.mg x C) (hi : PySem.W.findIn X.K (.ref C) "__init__" = some (some (.builtin "object.__init__"))) (hg : Gl X x)
    (hdb : (x == ("__debug__" : Str)) = false := by decide) : PE X (.Call (.Name x p) [] [] pos) (tMakeN C) := by
  refine ⟨fun pins s σ H Q I h => wpAny_Call_Name_kw (ld_glob I hg Kc.at_ ?_ hdb)⟩
  exact PySem.W.callWith_K0 I.kIn Kc.kp (run_mkn Kc hi I h)
end
section
variable {X : Cx} {k j : Nat} {C : Addr} {x m : Str} {sp : Sp} {p pos apos : Pos} {e o fe : Expr} {es : List Expr} {ta tf : TE} {t : TA}
/-- o.m(e, ..) -/
theorem pe_mt {pl : Sem Bool} (cl : Cls X.K C) (c : Met X.prog X.w X.K X.mg X.base k C m sp) (hr : RoomG j X.A) (hk : k ≤ j) (ho : PE X o ta) (ha : PA X (e :: es) t)
    (hst : starEach (e :: es) X.env = (false, eval e X.env) :: starEach es X.env := by rfl) (hpl : (backTo pos (starEach es X.env)).any (·.1) = false := by rfl)
    (ht : eval (.Call (.Attribute o m apos) (e :: es) [] pos) X.env = (do
      let recv ← eval o X.env
      standAt apos.atName
      let (fn, one) ← holding [recv] (getMethod recv m pl)
      callWith pos fn one (backTo pos (starEach (e :: es) X.env)) (backToKw pos (keywordEach [] X.env))) := by rfl) :
    PE X (.Call (.Attribute o m apos) (e :: es) [] pos) (tMeth C m sp [] E0 ta t) := by
  obtain ⟨f, fd, ps, F, fi, isf, kf, b⟩ := c.ex
  refine ⟨fun pins s σ H Q I h => PySem.W.methodCall_KW (pl := pl) (thn (ho.run pins s σ H _ I h) ?_) ht⟩
  rintro u s1 ⟨y, H1, I1, ry, a, dx, fs, rfl, ea, l, q⟩
  obtain rfl : u = Value.ref a := ry
  refine getmeth_ok I1 ea cl ⟨fi, isf, kf⟩ l ?_
  refine PySem.W.callWith_K (first := [.ref a]) (h₀ := X.base) I.ok.mod.kin kf (thn (ha.run pos pins s1 σ H1 _ I1 q) ?_) hst hpl
  rintro us s2 ⟨vs, H2, I2, r, q2⟩
  exact ⟨I2.kIn, run_g (us := .ref a :: us) (vs := .ref a :: vs) F (hr.mono hk) b .nil pass0 I2 (.cons rfl r) q2⟩
theorem pe_mt0 {pl : Sem Bool} (cl : Cls X.K C) (c : Met X.prog X.w X.K X.mg X.base k C m sp) (hr : RoomG j X.A) (hk : k ≤ j) (ho : PE X o ta)
    (ht : eval (.Call (.Attribute o m apos) [] [] pos) X.env = (do
      let recv ← eval o X.env
      standAt apos.atName
      let (fn, one) ← holding [recv] (getMethod recv m pl)
      callWith pos fn one (backTo pos (starEach [] X.env)) (backToKw pos (keywordEach [] X.env))) := by rfl) :
    PE X (.Call (.Attribute o m apos) [] [] pos) (tMeth C m sp [] E0 ta tNil) := by
  obtain ⟨f, fd, ps, F, fi, isf, kf, b⟩ := c.ex
  refine ⟨fun pins s σ H Q I h => PySem.W.methodCall_KW (pl := pl) (thn (ho.run pins s σ H _ I h) ?_) ht⟩
  rintro u s1 ⟨y, H1, I1, ry, a, dx, fs, rfl, ea, l, q⟩
  obtain rfl : u = Value.ref a := ry
  refine getmeth_ok I1 ea cl ⟨fi, isf, kf⟩ l ?_
  exact PySem.W.callWith_K0 (first := [.ref a]) I1.kIn kf (run_g (us := [.ref a]) (vs := [.ref a]) F (hr.mono hk) b .nil pass0 I1 (.cons rfl .nil) q)
/-- f(e, ..) where f gives an instance whose class has a __call__ -/
theorem pe_co (c : Met X.prog X.w X.K X.mg X.base k C "__call__" sp) (fn : ∀ f, PySem.W.findIn X.K (.ref C) "__call__" = some (some (.ref f)) → PySem.W.fnIn X.K f = true) (hr : RoomG j X.A) (hk : k ≤ j) (hf : PE X fe tf) (ha : PA X (e :: es) t)
    (ht : eval (.Call fe (e :: es) [] pos) X.env = (do callWith pos (← eval fe X.env) [] (backTo pos (starEach (e :: es) X.env)) (backToKw pos (keywordEach [] X.env))) := by rfl)
    (he : starEach (e :: es) X.env = (false, eval e X.env) :: starEach es X.env := by rfl) (hpl : (backTo pos (starEach es X.env)).any (·.1) = false := by rfl) : PE X (.Call fe (e :: es) [] pos) (tCallI C sp tf t) := by
  obtain ⟨f, fd, ps, F, fi, isf, kf, b⟩ := c.ex
  refine ⟨fun pins s σ H Q I h => Call_ (thn (hf.run pins s σ H _ I h) ?_) ht⟩
  rintro u s1 ⟨y, H1, I1, ry, a, rfl, q⟩
  obtain rfl : u = Value.ref a := ry
  refine StX.callO_with (thn (ha.run pos pins s1 σ H1 _ I1 q) ?_) he hpl
  rintro us s2 ⟨vs, H2, I2, r, ⟨dx, fs, hi⟩, q2⟩
  obtain ⟨mA, O, _⟩ := ins_get I2.hok hi
  obtain ⟨od, J, _⟩ := O.look
  refine ⟨⟨C, _, _, J, rfl⟩, ?_⟩
  have both : Vals (V.ref a :: vs) (Value.ref a :: us) := .cons rfl r
  have n : (Value.ref a :: us).length = ps.length := both.length.symm.trans (F.len _ _ _ _ q2)
  have hbd := b s2 (Value.ref a :: us) I2.kIn (by rw [List.append_nil]; exact n)
  rw [List.append_nil] at hbd
  refine wpAny_call (PySem.W.kco_code I2.kIn J rfl fi isf (fn f fi) (codeAny_mono (F.run X.A X.stack s2 H2 ⟨Value.ref a :: us, []⟩ _ _ Q E0 (hr.mono hk) I2.env0 hbd both q2) ?_))
  intro res s' hq
  match res, hq with
  | .error e, hq => exact False.elim hq
  | .ok (.ret u), hq => exact I2.after hq
  | .ok .next, hq => exact False.elim hq
  | .ok .brk, hq => exact False.elim hq
  | .ok .cont, hq => exact False.elim hq
end
section
variable {X : Cx} {j : Nat}
/-- xs != [], xs == [] -/
theorem op_neNil (hr : RoomG j X.A) : OpR X (compareOp .NotEq) (fun x y H Q => ∃ a b xs, x = .ref a ∧ y = .ref b ∧ SqL X.K H a xs ∧ SqL X.K H b [] ∧ Q (.bl (!xs.isEmpty)) H) := by
  intro pins s σ H x y v u Q I rx ry h
  obtain ⟨a, b, xs, rfl, rfl, ha, hb, q⟩ := h
  obtain rfl : v = Value.ref a := rx
  obtain rfl : u = Value.ref b := ry
  obtain ⟨its, r1, p1, _⟩ := I.list ha
  obtain ⟨js, r2, p2, _⟩ := I.list hb
  cases r2
  have fin : ∀ k, k = (!xs.isEmpty) → EP X pins σ Q (.bool k) s := fun k e => ⟨.bl _, H, I, e ▸ rfl, q⟩
  cases xs with
  | nil =>
    cases r1
    exact SeqAt.RcNeAt.lists (e := fun _ => true) p1.isList p2.isList rfl hr.units0 (fun j h1 => absurd h1 (by simp)) X.prog X.w X.xe _ (fin _ (by simp))
  | cons z zs =>
    cases r1
    exact SeqAt.RcNeAt.lists_lengths p1.isList p2.isList (by simp) hr.units0 X.prog X.w X.xe _ (fin _ (by simp))
theorem op_eqNil (hr : RoomG j X.A) : OpR X (compareOp .Eq) (fun x y H Q => ∃ a b xs, x = .ref a ∧ y = .ref b ∧ SqL X.K H a xs ∧ SqL X.K H b [] ∧ Q (.bl xs.isEmpty) H) := by
  intro pins s σ H x y v u Q I rx ry h
  obtain ⟨a, b, xs, rfl, rfl, ha, hb, q⟩ := h
  obtain rfl : v = Value.ref a := rx
  obtain rfl : u = Value.ref b := ry
  obtain ⟨its, r1, p1, _⟩ := I.list ha
  obtain ⟨js, r2, p2, _⟩ := I.list hb
  cases r2
  have fin : ∀ k, k = xs.isEmpty → EP X pins σ Q (.bool k) s := fun k e => ⟨.bl _, H, I, e ▸ rfl, q⟩
  cases xs with
  | nil =>
    cases r1
    exact SeqAt.RcAt.lists (e := fun _ => true) p1.isList p2.isList rfl hr.units0 (fun j h1 => absurd h1 (by simp)) X.prog X.w X.xe _ (fin _ (by simp))
  | cons z zs =>
    cases r1
    exact SeqAt.RcAt.lists_lengths p1.isList p2.isList (by simp) hr.units0 X.prog X.w X.xe _ (fin _ (by simp))
end
section
variable {X : Cx} {j : Nat}
theorem op_eqTI (hr : RoomG j X.A) : OpR X (compareOp .Eq) (rEqTI X.K) := by
  intro pins s σ H x y v u Q I rx ry h
  obtain ⟨t, t', ns, ms, rfl, rfl, h1, h2, q⟩ := h
  refine op_eqD hr.units pins s σ H _ _ v u Q I rx ry ⟨_, _, .tup h1 (dpInts ns), .tup h2 (dpInts ms), shapedTI ns, shapedTI ms, ?_⟩
  rw [PyData.eqv, eqvInts]
  exact q
theorem op_neTI (hr : RoomG j X.A) : OpR X (compareOp .NotEq) (rNeTI X.K) := by
  intro pins s σ H x y v u Q I rx ry h
  obtain ⟨t, t', ns, ms, rfl, rfl, h1, h2, q⟩ := h
  refine op_neD hr.units pins s σ H _ _ v u Q I rx ry ⟨_, _, .tup h1 (dpInts ns), .tup h2 (dpInts ms), shapedTI ns, shapedTI ms, ?_⟩
  rw [PyData.eqv, eqvInts]
  exact q
end
/-- a def called where X.A's frames run, from a place further in -/
theorem run_gAt {X : Cx} {k : Nat} {f : Addr} {fd : FuncData} {ps : List Str} {sp : Sp} {A : Around} {pins : List (Addr × Obj)} {σ : L2.St} {H : Hp} {s : Shared} {Q : VK} {us : List Value} {vs : List V} {E : Value → Shared → Prop}
    (F : FnG X.prog X.w X.K X.mg X.base CX0 k f fd ps sp) (hr : RoomG k A) (fr : A.frames = X.A.frames) (hb : Binds X.K fd ps []) (I : Inv X pins σ H s) (r : Vals vs us) (h : sp vs H Q E0) :
    wpAny (model X.prog X.w) A (call (.ref f) us) (EP X pins σ Q) E s := by
  have n : (us ++ []).length = ps.length := by rw [List.append_nil, ← r.length]; exact F.len _ _ _ _ h
  have bd := hb s us I.kIn n
  rw [List.append_nil] at bd
  have e := I.env0
  have e0 : Env0 X.prog X.w X.K X.mg X.base A X.stack s H := { frames := fr.trans e.frames, mod := e.mod, bs := e.bs, bsz := e.bsz, funs := e.funs, frf := e.frf, hok := e.hok, bare := e.bare }
  refine wpAny_call (codeAny_mono (F.run A X.stack s H ⟨us, []⟩ _ _ Q E0 hr e0 bd r h) fun res s' hq => ?_)
  match res, hq with
  | .error e, hq => exact False.elim hq
  | .ok (.ret u), hq => exact I.after hq
  | .ok .next, hq => exact False.elim hq
  | .ok .brk, hq => exact False.elim hq
  | .ok .cont, hq => exact False.elim hq
section
variable {X : Cx} {k j : Nat} {C : Addr} {sp : Sp}
theorem call_strO (c : Met X.prog X.w X.K X.mg X.base k C "__str__" sp) (hr : RoomG j X.A) (hk : k + 2 ≤ j) : CallR X (.type "str") (rStrO C sp) := by
  intro pins s σ H xs us Q I r h
  obtain ⟨a, dx, fs, rfl, ha, q⟩ := h
  obtain ⟨u, rfl, ru⟩ := vals1 r
  obtain rfl : u = Value.ref a := ru
  obtain ⟨f, fd, ps, F, fi, isf, kf, b⟩ := c.ex
  obtain ⟨ox, od, J⟩ := inst_at I ha
  have r2 : RoomG (k + 2) X.A := hr.mono hk
  refine PySem.W.kso_call (f := f) r2.in1.in1.units0 I.kIn J fi isf (thn (run_gAt (vs := [.ref a]) F r2.in1.in1 rfl b I (.cons rfl .nil) q) ?_)
  rintro v s' ⟨z, H', I', rz, y, rfl, qz⟩
  obtain ⟨t, rfl⟩ := rz
  exact ⟨.str y, H', I', ⟨t, rfl⟩, qz⟩
theorem op_eqO (c : Met X.prog X.w X.K X.mg X.base k C "__eq__" sp) (hr : RoomG j X.A) (hk : k ≤ j) : OpR X (compareOp .Eq) (rCmpO X.K C sp id) := by
  intro pins s σ H x y v u Q I rx ry h
  obtain ⟨a, dx, fs, rfl, ha, ⟨t, ty, nf⟩, q⟩ := h
  obtain rfl : v = Value.ref a := rx
  obtain ⟨f, fd, ps, F, fi, isf, kf, b⟩ := c.ex
  obtain ⟨ox, od, J⟩ := inst_at I ha
  obtain ⟨Pr, kx, pr, _⟩ := kit_of I ry ty
  obtain ⟨m, hF⟩ := I.fr
  refine PySem.W.cmp_K (op := .Eq) (tb := t) hr.units0 hF I.ok.mod.kin J (kx.ty _ _ I.kIn pr) nf fi isf (thn (run_gAt (vs := [.ref a, y]) F (hr.mono hk) rfl b I (.cons rfl (.cons ry .nil)) q) ?_)
  rintro z s' ⟨w', H', I', rz, r, rfl, qz⟩
  cases rz
  exact ⟨.bl r, H', I', rfl, qz⟩
theorem op_neO (c : Met X.prog X.w X.K X.mg X.base k C "__eq__" sp) (hn : PySem.W.findIn X.K (.ref C) "__ne__" = some (some (.builtin "object.__ne__"))) (mk : PySem.W.makesIn X.K C = true) (hr : RoomG j X.A) (hk : k + 1 ≤ j) :
    OpR X (compareOp .NotEq) (rCmpO X.K C sp not) := by
  intro pins s σ H x y v u Q I rx ry h
  obtain ⟨a, dx, fs, rfl, ha, ⟨t, ty, nf⟩, q⟩ := h
  obtain rfl : v = Value.ref a := rx
  obtain ⟨f, fd, ps, F, fi, isf, kf, b⟩ := c.ex
  obtain ⟨ox, od, J⟩ := inst_at I ha
  obtain ⟨Pr, kx, pr, _⟩ := kit_of I ry ty
  have r1 : RoomG (k + 1) X.A := hr.mono hk
  have top : PySem.W.Looks (model X.prog X.w) s.heap (isInstance (.ref a) (.type "object")) true := J.type.andThen (PySem.W.makes_of (M := model X.prog X.w) I.kIn mk).top
  refine cmp_one (op := .NotEq) hr.units0 I.kIn J (kx.ty _ _ I.kIn pr) nf (ne_own r1.in1.units0 I.kIn J top hn fi isf (thn (run_gAt (vs := [.ref a, y]) F r1.in1 rfl b I (.cons rfl (.cons ry .nil)) q) ?_))
  rintro z s' ⟨w', H', I', rz, r, rfl, qz⟩
  cases rz
  exact ⟨r, rfl, .bl (!r), H', I', rfl, qz⟩
end
section
variable {P : Program} {w : World} {K : PySem.W.Frag} {mg : Str → Option Value} {base : Heap} {k : Nat} {x m : Str} {C : Addr} {sp : Sp}
/-- what needs no such care may be called with it -/
theorem up (c : G1.Cal P w K mg base k x sp) : Cal P w K mg base k x sp := let ⟨f, fd, ps, F, r⟩ := c.ex; ⟨f, fd, ps, ofOk F, r⟩
theorem upM (c : G1.Met P w K mg base k C m sp) : Met P w K mg base k C m sp := let ⟨f, fd, ps, F, r⟩ := c.ex; ⟨f, fd, ps, ofOk F, r⟩
end
section
variable {X : Cx} {j : Nat}
theorem call_reprD (hr : RoomG j X.A) : CallR X (.builtin "repr") (rRepr X.K) := by
  intro pins s σ H xs us Q I r h
  obtain ⟨a, d, rfl, hd, sh, dep, sz, q⟩ := h
  obtain ⟨u, rfl, rx⟩ := vals1 r
  obtain ⟨as, rd⟩ := Dp.reads I d _ _ hd rx
  obtain rfl : u = Value.ref a := rx
  have nd := dp_noDict hd
  refine repr_of_reads' rd sh (fun z => by rw [nd] at z; cases z) hr.gd (by have := hr.units; omega) (fun _ _ e => e) (fun h' u tk hk => ?_) sz
  exact ⟨.str d.shown, H, I.kept (t' := tk) hk, ⟨_, rfl⟩, q⟩
end

/-! ### the law's own call -/
theorem lawG {P : Program} {w : World} {K : PySem.W.Frag} {mg mb : Str → Option Value} {k : Nat} {fa a : Addr} {x : Str} {sp : Sp} {s1 : Shared} {us : List Value} {ns : List Int}
    (inK : K.In s1.heap) (gl : s1.heap.Ns mainGlobals mg) (bl : s1.heap.Ns builtinsNs mb) (blE : ∀ x : Str, x ≠ "__name__" → mb x = bootBuiltins x) (lim : s1.heap.NoLimit) (gens : s1.gens = #[])
    (obj : s1.heap.get? a = some { cls := .type "list", data := .seq us.toArray }) (intsH : IntsAre us ns) (short : ns.length ≤ sizeLine) (room : RoomG k callerA)
    (F : ∀ base : Heap, K.In base → base.Ns mainGlobals mg → Cal P w K mg base k x sp) (hx : mg x = some (.ref fa))
    (want : ∀ H : Hp, Only H → SqL K H a (ns.map V.int) → sp [.ref a] H (fun v _ => v = .bl true) fun _ _ _ => False) :
    codeAny (model P w) callerA (.call (.ref fa) ⟨[.ref a], []⟩) (fun r s' => r = .ok (.ret (.bool true)) ∧ OldK s1.heap s'.heap ∧ s'.os = s1.os ∧ AllBare s'.gens) s1 := by
  -- the script's own place alone is tracked, or nothing is
  have go : ∀ T : Hp, (∀ b u, T b = some u → b = a ∧ ∃ o xs, u = .frz o (.lst xs)) → SqL K T a (ns.map V.int) → HOk P w T s1.heap → (T a ≠ none → K.lookup a = none) →
      codeAny (model P w) callerA (.call (.ref fa) ⟨[.ref a], []⟩) (fun r s' => r = .ok (.ret (.bool true)) ∧ OldK s1.heap s'.heap ∧ s'.os = s1.os ∧ AllBare s'.gens) s1 := by
    intro T only seq hok free
    have hid : ∀ {b : Addr} {m : Str → Option Value}, s1.heap.Ns b m → (hidT s1.heap T).Ns b m := by
      rintro b m ⟨o, es, ep, e, d, rest⟩
      refine ⟨o, es, ep, hidT_get e ?_, d, rest⟩
      cases q : T b with
      | none => rfl
      | some u =>
        obtain ⟨rfl, _⟩ := only b u q
        rw [obj] at e
        obtain rfl := Option.some.inj e
        exact nomatch d
    have inB : K.In (hidT s1.heap T) := by
      intro b o e
      refine hidT_get (inK b o e) ?_
      cases q : T b with
      | none => rfl
      | some u =>
        obtain ⟨rfl, _⟩ := only b u q
        rw [free (by rw [q]; exact fun z => nomatch z)] at e
        exact nomatch e
    have lim' : (hidT s1.heap T).NoLimit := by
      obtain ⟨mc, z1, z2⟩ := lim
      exact ⟨mc, hid z1, z2⟩
    have env0 : Env0 P w K mg (hidT s1.heap T) callerA [] s1 T :=
      { frames := rfl, mod := ⟨inB, hid gl, ⟨mb, hid bl, blE⟩, lim'⟩, bs := fun _ _ e => of_hidT e, bsz := Nat.le_of_eq (hidT_size _ _), funs := trivial, frf := (fun _ hb => nomatch hb), hok := hok, bare := .of_eq gens }
    have onlyT : Only T := fun b => by
      cases q : T b with
      | none => exact .inl rfl
      | some u => obtain ⟨_, o, xs, rfl⟩ := only b u q; exact .inr ⟨o, xs, rfl⟩
    obtain ⟨f, fd, ps, Fn, hm, _, hb⟩ := (F _ inB (hid gl)).ex
    obtain rfl : fa = f := by rw [hx] at hm; cases hm; rfl
    have one := Fn.len _ _ _ _ (want T onlyT seq)
    have bd := hb s1 [.ref a] inK one
    rw [List.append_nil] at bd
    refine codeAny_mono (Fn.run callerA [] s1 T ⟨[.ref a], []⟩ [.ref a] [.ref a] _ _ room env0 bd (.cons rfl .nil) (want T onlyT seq)) ?_
    intro r s' hq
    match r, hq with
    | .error _, hq => exact False.elim hq
    | .ok .next, hq => exact False.elim hq
    | .ok .brk, hq => exact False.elim hq
    | .ok .cont, hq => exact False.elim hq
    | .ok (.ret u), hq =>
      obtain ⟨v, T', os, bare, un, hok', rv, ev⟩ := hq
      subst ev
      obtain rfl : u = Value.bool true := rv
      refine ⟨rfl, OldK.of_keep fun b o e => ?_, os, bare⟩
      cases q : T b with
      | none => exact un.keep b o e q (fun z => nomatch z) (fun z => nomatch z)
      | some t =>
        obtain ⟨_, ob, xs, rfl⟩ := only b t q
        have same := (hok b _ q).1
        rw [e] at same
        obtain rfl := Option.some.inj same
        exact (hok' b _ (un.frzs b _ _ q)).1
  have rv := vals_ints intsH
  by_cases hk : ∃ o, K.lookup a = some o
  · obtain ⟨o, hk⟩ := hk
    have e := inK a o hk
    rw [obj] at e
    obtain rfl := Option.some.inj e
    refine go (fun _ => none) (fun _ _ z => nomatch z) (.inr ⟨_, us.toArray, _, hk, rfl, rfl, rfl, ?_, by simpa using rv⟩) (fun _ _ z => nomatch z) (fun z => absurd rfl z)
    rw [List.size_toArray, intsH.length]
    exact short
  · have hk' : K.lookup a = none := by
      cases q : K.lookup a with
      | none => rfl
      | some o => exact absurd ⟨o, q⟩ hk
    refine go (upd (fun _ => none) a (.frz { cls := .type "list", data := .seq us.toArray } (.lst (ns.map V.int)))) (fun b u z => ?_) (.inl (.inr ⟨_, upd_same⟩)) (fun b u z => ?_) (fun _ => hk')
    · by_cases hb : b = a
      · subst hb
        rw [upd_same] at z
        obtain rfl := Option.some.inj z
        exact ⟨rfl, _, _, rfl⟩
      · rw [upd_ne hb] at z
        exact nomatch z
    · by_cases hb : b = a
      · subst hb
        rw [upd_same] at z
        obtain rfl := Option.some.inj z
        exact ⟨obj, by rw [List.length_map]; exact short, us, _, rv, obj⟩
      · rw [upd_ne hb] at z
        exact nomatch z
theorem walkG {l : PySem.W.OpenLaw} {k : Nat} {q : Program} {loose : List Str} {XP : (Str → Option Value) → Heap → Prop} {YP : World → Heap → Prop} {d : DefRec} {K : Params → PySem.W.Frag} {sp : PySem.W.Frag → Sp}
    (most : l.most = some 63) (hdf : d.params.defaults = []) (room : RoomG k callerA) (hY : ∀ (w : World) (h : Heap), YP w h → (K w.params).In h)
    (want : ∀ (K : PySem.W.Frag) (H : Hp) (a : Addr) (ns : List Int), ns.length ≤ 63 → SqL K H a (ns.map V.int) → sp K [.ref a] H (fun v _ => v = .bl true) fun _ _ _ => False)
    (F : ∀ (w : World) (mg : Str → Option Value) (h : Heap), (K w.params).In h → h.Ns mainGlobals mg → ∀ base : Heap, Cal l.prog w (K w.params) mg base k d.name (sp (K w.params))) :
    PySem.W.WalkO q loose XP YP l.row.toRowW d [] (fun f vs => PySem.call f vs) := by
  refine Att.attach_call most hdf fun w s0 s1 mg mb fa o pm cd doc a us ns gr y ho hd hcd hmg obj intsH hlen gens => ?_
  have inK := hY w _ y
  exact lawG inK gr.T.g gr.T.b gr.T.builtins gr.T.nolimit gens obj intsH (Nat.le_trans hlen (by decide)) room (fun base _ _ => F w mg _ inK gr.T.g base) hmg fun H _ hS => want _ H a ns hlen hS
end G0

namespace GB
open PySem PySem.Spec PyProof.Rows L2
/-! ### a pen: a list of a list of ints, and two ints -/
def penShape : HO → Bool
  | .lst [.ref _, .int _, .int _] => true
  | _ => false
/-- all but pens is kept -/
structure Kq (H H' : Hp) : Prop where
  keep : ∀ b o, penShape o = false → H b = some o → H' b = some o
  dom : ∀ b, H' b = none → H b = none
theorem Kq.refl (H : Hp) : Kq H H := ⟨fun _ _ _ e => e, fun _ e => e⟩
theorem Kq.trans {H H1 H2 : Hp} (a : Kq H H1) (b : Kq H1 H2) : Kq H H2 := ⟨fun c o n e => b.keep c o n (a.keep c o n e), fun c e => a.dom c (b.dom c e)⟩
theorem Kp.q {H H1 : Hp} (a : Kp [] H H1) : Kq H H1 := ⟨fun b o _ e => a.same b o e, a.dom⟩
theorem Kq.new {H : Hp} {p : Addr} {o : HO} (h : H p = none) : Kq H (upd H p o) := (Kp.new (S := []) h).q
theorem Kq.pen {H : Hp} {p c : Addr} {i r : Int} {o : HO} (h : H p = some (.lst [.ref c, .int i, .int r])) : Kq H (upd H p o) := by
  refine ⟨fun b v n e => ?_, fun b e => ?_⟩
  · rw [upd_ne (fun z => by subst z; rw [h] at e; cases e; cases n)]; exact e
  · by_cases hb : b = p
    · subst hb; rw [upd_same] at e; cases e
    · rwa [upd_ne hb] at e
theorem Kq.putNew {H0 H : Hp} {p : Addr} {o : HO} (a : Kq H0 H) (h0 : H0 p = none) : Kq H0 (upd H p o) := by
  refine ⟨fun b v n e => ?_, fun b e => ?_⟩
  · rw [upd_ne (ne_of_none e h0)]; exact a.keep b v n e
  · by_cases hb : b = p
    · subst hb; exact h0
    · rw [upd_ne hb] at e; exact a.dom b e
theorem Kp.putNew' {H0 H : Hp} {p : Addr} {o : HO} (a : Kp [] H0 H) (h0 : H0 p = none) : Kp [] H0 (upd H p o) := by
  refine ⟨fun b v n e => ?_, fun b xs e => ?_, fun b e => ?_⟩
  · rw [upd_ne (ne_of_none e h0)]; exact a.keep b v n e
  · rw [upd_ne (ne_of_none e h0)]; exact a.tup b xs e
  · by_cases hb : b = p
    · subst hb; exact h0
    · rw [upd_ne hb] at e; exact a.dom b e
def Pen (H : Hp) (p c : Addr) (n : Int) : Prop := ∃ (cs : List Int) (i r : Int), H p = some (.lst [.ref c, .int i, .int r]) ∧ H c = some (.lst (cs.map V.int)) ∧ 0 ≤ i ∧ i ≤ n ∧ 0 ≤ r
theorem shape_ints (cs : List Int) : penShape (.lst (cs.map V.int)) = false := by
  cases cs <;> rfl
theorem shape_strs (cs : List Str) : penShape (.lst (cs.map V.str)) = false := by
  cases cs <;> rfl
theorem shape_refs (cs : List Addr) : penShape (.lst (cs.map V.ref)) = false := by
  match cs with
  | [] => rfl
  | [_] => rfl
  | [_, _] => rfl
  | [_, _, _] => rfl
  | _ :: _ :: _ :: _ :: _ => rfl
theorem Pen.le {H : Hp} {p c : Addr} {n m : Int} (h : Pen H p c n) (l : n ≤ m) : Pen H p c m := by
  obtain ⟨cs, i, r, g1, g2, g3, g4, g5⟩ := h
  exact ⟨cs, i, r, g1, g2, g3, by omega, g5⟩
theorem Pen.same {H H' : Hp} {p c : Addr} {n : Int} (k : Kp [] H H') (h : Pen H p c n) : Pen H' p c n := by
  obtain ⟨cs, i, r, g1, g2, g3⟩ := h
  exact ⟨cs, i, r, k.same _ _ g1, k.same _ _ g2, g3⟩
theorem Pen.new {H : Hp} {p c q : Addr} {n : Int} {o : HO} (h : Pen H p c n) (hq : H q = none) : Pen (upd H q o) p c n := h.same (Kp.new hq)
theorem Pen.nep {H : Hp} {p c q : Addr} {n : Int} (h : Pen H p c n) (hq : H q = none) : p ≠ q ∧ c ≠ q := by
  obtain ⟨cs, i, r, g1, g2, g3⟩ := h
  exact ⟨ne_of_none g1 hq, ne_of_none g2 hq⟩
/-- what was new may be written -/
theorem Pen.put {H : Hp} {p c q : Addr} {n : Int} {o : HO} (h : Pen H p c n) (h1 : p ≠ q ∧ c ≠ q) : Pen (upd H q o) p c n := by
  obtain ⟨cs, i, r, g1, g2, g3⟩ := h
  exact ⟨cs, i, r, by rw [upd_ne h1.1]; exact g1, by rw [upd_ne h1.2]; exact g2, g3⟩
def spDraw : Sp := fun vs H Q _ => ∃ (p c : Addr) (m n : Int), vs = [.ref p, .int m] ∧ Pen H p c n ∧ 0 < m ∧ m < 536870912 ∧ n ≤ 100000 ∧
  ∀ d H', 0 ≤ d → d < m → Kq H H' → Pen H' p c (n + 1) → Q (.int d) H'
def spPen (K : PySem.W.Frag) : Sp := fun vs H Q _ => ∃ (a : Addr) (ns : List Int), vs = [.ref a] ∧ SqL K H a (ns.map V.int) ∧ ns.length ≤ 63 ∧ ∀ p c H', H p = none → Kp [] H H' → Pen H' p c 0 → Q (.ref p) H'
/-! ### lists of texts -/
def StrL (H : Hp) (a : Addr) (xs : List Str) : Prop := H a = some (.lst (xs.map V.str))
theorem StrL.kq {H H' : Hp} {a : Addr} {xs : List Str} (h : StrL H a xs) (k : Kq H H') : StrL H' a xs := k.keep _ _ (shape_strs xs) h
theorem StrL.same {H H' : Hp} {a : Addr} {xs : List Str} (k : Kp [] H H') (h : StrL H a xs) : StrL H' a xs := k.same _ _ h
section
variable {X : Cx} {x : Str} {v : V} {pos : Pos}
/-- a module's constant -/
theorem pe_gc (hg : Gl X x) (h : ∃ u, X.mg x = some u ∧ RelV v u) (hd : (x == ("__debug__" : Str)) = false := by decide) : PE X (.Name x pos) (tC v) := let ⟨_, m, r⟩ := h; pe_glob hg m r hd
/-- isinstance(x, T), T a built-in class -/
def rIsB (K : PySem.W.Frag) (T : String) : List V → Hp → VK → Prop := fun xs H Q => ∃ (x : V) (t : String) (b : Bool), xs = [x, .ty T] ∧ TyX K H x (.type t) ∧ kitB t T = some b ∧ Q (.bl b) H
theorem call_isB (T : String) : CallR X (.builtin "isinstance") (rIsB X.K T) := fun pins s σ H xs us Q I r h => by
  obtain ⟨x, t, b, e, ty, k, q⟩ := h
  exact call_isi pins s σ H xs us Q I r ⟨x, .ty T, .type t, .type T, b, e, .ty T, ty, kit_ty k, q⟩
/-- isinstance(x, C), C an own class -/
def rIsO (K : PySem.W.Frag) (C : Addr) : List V → Hp → VK → Prop := fun xs H Q => ∃ (x : V) (t : Value) (b : Bool), xs = [x, .ref C] ∧ TyX K H x t ∧ PySem.W.kitOne K t (.ref C) = some b ∧ Q (.bl b) H
theorem call_isO (C : Addr) : CallR X (.builtin "isinstance") (rIsO X.K C) := fun pins s σ H xs us Q I r h => by
  obtain ⟨x, t, b, e, ty, k, q⟩ := h
  exact call_isi pins s σ H xs us Q I r ⟨x, .ref C, t, .ref C, b, e, .own C, ty, k, q⟩
/-- one of a list and a tuple -/
def SqA (K : PySem.W.Frag) (H : Hp) (a : Addr) (xs : List V) : Prop := SqL K H a xs ∨ SqT K H a xs
theorem same_rd {H H' : Hp} {a : Addr} {u : HO} (k : Same H H') (h : Rd H a u) : Rd H' a u := by
  rcases h with h | ⟨o, h⟩
  · exact .inl (k _ _ h)
  · exact .inr ⟨o, k _ _ h⟩
theorem same_sqT {K : PySem.W.Frag} {H H' : Hp} {a : Addr} {xs : List V} (k : Same H H') (h : SqT K H a xs) : SqT K H' a xs := by
  rcases h with h | h
  · exact .inl (same_rd k h)
  · exact .inr h
theorem SqA.same {K : PySem.W.Frag} {H H' : Hp} {a : Addr} {xs : List V} (k : Kp [] H H') (h : SqA K H a xs) : SqA K H' a xs := h.elim (fun z => .inl (Same.seq k.same z)) fun z => .inr (same_sqT k.same z)
def rIxA (K : PySem.W.Frag) : R2 := fun x y H Q => ∃ p xs i v, x = .ref p ∧ y = .int i ∧ SqA K H p xs ∧ atI xs i = some v ∧ Q v H
theorem ix_any {K : PySem.W.Frag} (hK : X.K = K := by rfl) : IxR X (rIxA K) := by
  subst hK
  intro value slice pins s σ H x y v u Q I rx ry h hs
  obtain ⟨p, xs, i, w, e1, e2, ha, a, q⟩ := h
  rcases ha with z | z
  · exact ix_list value slice pins s σ H x y v u Q I rx ry ⟨p, xs, i, w, e1, e2, z, a, q⟩ hs
  · exact ix_tup value slice pins s σ H x y v u Q I rx ry ⟨p, xs, i, w, e1, e2, z, a, q⟩ hs
theorem ix_listK {K : PySem.W.Frag} (hK : X.K = K := by rfl) : IxR X (rIxL K) := hK ▸ ix_list
theorem ix_tupK {K : PySem.W.Frag} (hK : X.K = K := by rfl) : IxR X (rIxT K) := hK ▸ ix_tup
theorem op_in_seqK {K : PySem.W.Frag} (hK : X.K = K := by rfl) : OpR X (compareOp .In) (rIn K false) := hK ▸ op_in_seq
theorem op_notIn_seqK {K : PySem.W.Frag} (hK : X.K = K := by rfl) : OpR X (compareOp .NotIn) (rIn K true) := hK ▸ op_notIn_seq
/-- a slice that is not the whole -/
def rSlO (K : PySem.W.Frag) : V → Option Int → Option Int → Hp → VK → Prop := fun x lo hi H Q => ∃ a xs, x = .ref a ∧ SqA K H a xs ∧ ¬ (HT.sIx xs.length 0 lo = 0 ∧ HT.sIx xs.length xs.length hi = xs.length) ∧
  ∀ p o, H p = none → (o = .lst (cutV xs lo hi) ∨ o = .tup (cutV xs lo hi)) → Q (.ref p) (upd H p o)
theorem sl_any {K : PySem.W.Frag} (hK : X.K = K := by rfl) : SlR X (rSlO K) := by
  subst hK
  intro pins s σ H x v vl vu lo hi sl Q I rx hs pl pu h
  obtain ⟨a, xs, e, ha, nw, q⟩ := h
  rcases ha with z | z
  · exact sl_list pins s σ H x v vl vu lo hi sl Q I rx hs pl pu ⟨a, xs, e, z, fun p hp => q p _ hp (.inl rfl)⟩
  · exact sl_tup pins s σ H x v vl vu lo hi sl Q I rx hs pl pu ⟨a, xs, e, z, nw, fun p hp => q p _ hp (.inr rfl)⟩
end
end GB

namespace GB
open PySem PySem.Spec PyProof.Rows L2
/-! ### comprehensions of one name without a test -/
/-- the list at D, of i things, is longer by y, and I holds of it -/
def AccTo (D : Addr) (i : Nat) (I : Nat → List V → Hp → Prop) (y : V) (H4 : Hp) : Prop :=
  ∃ acc, H4 D = some (.lst acc) ∧ acc.length < sizeLine ∧ ∃ ys, ys.length = i + 1 ∧ upd H4 D (.lst (acc ++ [y])) D = some (.lst ys) ∧ I (i + 1) ys (upd H4 D (.lst (acc ++ [y])))
theorem acc_to {D : Addr} {i : Nat} {I : Nat → List V → Hp → Prop} {y : V} {H4 : Hp} {ys : List V} (h : H4 D = some (.lst ys)) (hl : ys.length = i) (hn : i < sizeLine) (q : I (i + 1) (ys ++ [y]) (upd H4 D (.lst (ys ++ [y])))) : AccTo D i I y H4 :=
  ⟨ys, h, by omega, ys ++ [y], by simp [hl], upd_same, q⟩
section
variable {J : It} {n i0 : Nat} {G : Hp → Prop} {Y : Nat → Hp → V → Hp → Prop} {te : TE} {σ : L2.St} {H1 : Hp} {D : Addr} {Qd : Hp → Prop}
theorem wipe1 (σ : L2.St) (i : Nat) (x : V) : wipe ((wipe σ [i]).set i (some x)) [i] = wipe σ [i] := by
  show ((σ.set i none).set i (some x)).set i none = σ.set i none
  rw [List.set_set, List.set_set]
/-- what was gathered so far is told by I -/
theorem lc_acc (w : Walk J n G Y) (I : Nat → List V → Hp → Prop) (h0 : I 0 [] (upd H1 D (.lst []))) (hG : ∀ i ys H, i ≤ n → ys.length = i → H D = some (.lst ys) → I i ys H → G H)
    (hs : ∀ i x ys H H', i < n → ys.length = i → H D = some (.lst ys) → I i ys H → Y i H x H' → te ((wipe σ [i0]).set i0 (some x)) H' (AccTo D i I))
    (hd : ∀ ys H, ys.length = n → H D = some (.lst ys) → I n ys H → Qd H) :
    ∃ W : Nat → Nat → Hp → Prop, (∃ m, W 0 m (upd H1 D (.lst []))) ∧ ∀ i m H, W i m H →
      (J.stop i H ∧ Qd H) ∨ (J.go i H ∧ ∃ Nx : Hp → Prop, (∀ H', Nx H' → ∃ m', m' < m ∧ W (i + 1) m' H') ∧ ∀ x H', J.yld i H x H' → gName i0 x (wipe σ [i0]) H' fun σ2 H2 => wipe σ2 [i0] = wipe σ [i0] ∧ tYes σ2 H2 fun b H3 =>
        if b = true then te σ2 H3 fun y H4 => ∃ acc, H4 D = some (.lst acc) ∧ acc.length < sizeLine ∧ Nx (upd H4 D (.lst (acc ++ [y]))) else Nx H3) := by
  refine lc_it w (fun i H => ∃ ys, ys.length = i ∧ H D = some (.lst ys) ∧ I i ys H) ⟨[], rfl, upd_same, h0⟩ (fun i H hi ⟨ys, a, b, c⟩ => hG i ys H hi a b c) ?_ (fun H ⟨ys, a, b, c⟩ => hd ys H a b c)
  rintro i x H H' hi ⟨ys, a, b, c⟩ y
  refine ⟨wipe1 σ i0 x, ?_⟩
  have z := hs i x ys H H' hi a b c y
  unfold AccTo at z
  simp only [tYes, if_true]
  exact z
/-- all that stood ahead is kept, the i-th thing is f i -/
theorem lc_map (w : Walk J n G Y) (hn : n ≤ sizeLine) (f : Nat → V) (hD : H1 D = none) (hG : ∀ H, Kp [] H1 H → G H)
    (hs : ∀ i x H H', i < n → H D = some (.lst ((List.range i).map f)) → Kp [] H1 H → Y i H x H' → te ((wipe σ [i0]).set i0 (some x)) H' (AccTo D i fun j ys H => Kp [] H1 H ∧ ys = (List.range j).map f))
    (hd : ∀ H, H D = some (.lst ((List.range n).map f)) → Kp [] H1 H → Qd H) :
    ∃ W : Nat → Nat → Hp → Prop, (∃ m, W 0 m (upd H1 D (.lst []))) ∧ ∀ i m H, W i m H →
      (J.stop i H ∧ Qd H) ∨ (J.go i H ∧ ∃ Nx : Hp → Prop, (∀ H', Nx H' → ∃ m', m' < m ∧ W (i + 1) m' H') ∧ ∀ x H', J.yld i H x H' → gName i0 x (wipe σ [i0]) H' fun σ2 H2 => wipe σ2 [i0] = wipe σ [i0] ∧ tYes σ2 H2 fun b H3 =>
        if b = true then te σ2 H3 fun y H4 => ∃ acc, H4 D = some (.lst acc) ∧ acc.length < sizeLine ∧ Nx (upd H4 D (.lst (acc ++ [y]))) else Nx H3) := by
  refine lc_acc w (fun j ys H => Kp [] H1 H ∧ ys = (List.range j).map f) ⟨Kp.new hD, rfl⟩ (fun i ys H _ _ _ c => hG H c.1) (fun i x ys H H' hi a b c y => hs i x H H' hi (by rw [b, c.2]) c.1 y) (fun ys H a b c => hd H (by rw [b, c.2]) c.1)
/-- the end of a turn of lc_map -/
theorem map_to {f : Nat → V} {i : Nat} {H4 : Hp} {y : V} (hD : H1 D = none) {H : Hp} (k0 : H D = some (.lst ((List.range i).map f))) (k : Kp [] H1 H) (k4 : Kp [] H H4) (hn : i < sizeLine) (e : y = f i) : AccTo D i (fun j ys H => Kp [] H1 H ∧ ys = (List.range j).map f) y H4 :=
  acc_to (k4.same _ _ k0) (by simp) hn ⟨Kp.putNew' (k.trans k4) hD, by subst e; rw [List.range_succ, List.map_append]; rfl⟩
end
theorem range_map {α β : Type} (l : List α) (d : α) (f : α → β) : (List.range l.length).map (fun i => f (l.getD i d)) = l.map f := by
  refine List.ext_getElem (by simp) fun i h1 h2 => ?_
  have h3 : i < l.length := by simpa using h1
  simp [List.getD, h3]
end GB

namespace GB
open PySem PySem.Spec PyProof.Rows L2
section
variable {X : Cx} {tg : Expr}
/-- over a list or a tuple -/
def iAny (K : PySem.W.Frag) (tl : TE) : TI := fun σ H R => tl σ H fun x H1 => ∃ a xs, x = .ref a ∧ SqA K H1 a xs ∧ ∀ (J : It) (G : Hp → Prop), (∀ H', Kp [] H1 H' → G H') → Walk J xs.length G (YAt xs) → R J H1
theorem pi_any {l : Expr} {tl : TE} (hl : PE X l tl) : PI X tg l (iAny X.K tl) := by
  refine ⟨fun pins s σ H R I h => ?_⟩
  refine thn (hl.run pins s σ H _ I h) fun v s1 ⟨x, H1, I1, r1, q1⟩ => ?_
  obtain ⟨a, xs, e, hq, q⟩ := q1
  subst e
  cases r1
  rcases hq with hq | hq
  · obtain ⟨its, rv, p, hz⟩ := I1.list hq
    refine wpAny_pyIter_list p.isList ?_
    refine ⟨s1.heap.objs.size, [s1.heap.objs.size], _, _, H1, rfl, I1.kept (t' := s1.toks) fun b o e => Heap.get?_push_of_some _ e, turn_list a _, ⟨_, Heap.get?_push_size _ rfl, rfl, rfl⟩, fun b hb => ?_, q _ _ (fun H' k => Same.seq k.same hq) walk_list⟩
    have e : b = s1.heap.objs.size := by simpa using hb
    subst e
    exact I1.fpOk (Nat.le_refl _) (I1.hok.fresh (Nat.le_refl _))
  · obtain ⟨its, rv, p, hz⟩ := I1.tuple hq
    refine wpAny_pyIter_tuple (show s1.heap.IsTuple a its.toArray from p) ?_
    refine ⟨s1.heap.objs.size, [s1.heap.objs.size], _, _, H1, rfl, I1.kept (t' := s1.toks) fun b o e => Heap.get?_push_of_some _ e, turn_tuple a _, ⟨_, Heap.get?_push_size _ rfl, rfl, rfl⟩, fun b hb => ?_, q _ _ (fun H' k => same_sqT k.same hq) walk_tup⟩
    have e : b = s1.heap.objs.size := by simpa using hb
    subst e
    exact I1.fpOk (Nat.le_refl _) (I1.hok.fresh (Nat.le_refl _))
/-- x in a tuple of data -/
def rInTD (K : PySem.W.Frag) : R2 := fun x y H Q => ∃ d ds, Dp K H x d ∧ Dp K H y (.tuple ds) ∧ SeqAt.shaped d = true ∧ SeqAt.shaped (.tuple ds) = true ∧ Q (.bl (ds.any fun z => PyData.eqv z d)) H
theorem op_inTD {j : Nat} (hr : Room j X.A) : OpR X (compareOp .In) (rInTD X.K) := by
  intro pins s σ H x y v u Q I rx ry h
  obtain ⟨d, ds, hd, he, sd, se, q⟩ := h
  obtain ⟨as, r1⟩ := Dp.reads I d x v hd rx
  obtain ⟨bs, r2⟩ := Dp.reads I (.tuple ds) y u he ry
  exact SeqAt.in_tuple_reads r2 r1 (SeqAt.canLay_of_shaped se) (SeqAt.canLay_of_shaped sd) (room_in_shaped sd (by have := hr.un; omega)) ⟨.bl _, H, I, rfl, q⟩
/-- == of data -/
theorem op_eqDD {j : Nat} (hr : Room j X.A) : OpR X (compareOp .Eq) (fun x y H Q => ∃ d e, Dp X.K H x d ∧ Dp X.K H y e ∧ SeqAt.shaped d = true ∧ SeqAt.shaped e = true ∧ Q (.bl (PyData.eqv d e)) H) := by
  intro pins s σ H x y v u Q I rx ry h
  exact op_eqD hr.units pins s σ H x y v u Q I rx ry h
end
theorem valsAbs : ∀ {xs : List V} {us : List Value}, us.map absV = xs.map some → Vals xs us
  | [], [], _ => .nil
  | [], _ :: _, e => by simp at e
  | _ :: _, [], e => by simp at e
  | x :: xs, u :: us, e => by
    simp only [List.map_cons, List.cons.injEq] at e
    refine .cons ?_ (valsAbs e.2)
    have := e.1
    cases u <;> simp only [absV, Option.some.injEq, reduceCtorEq] at this <;> subst this <;> first | rfl | exact ⟨_, rfl⟩
/-- a tuple of the written part -/
theorem kTup {K : PySem.W.Frag} {a : Addr} {od : Option Addr} {its : Array Value} {n : Nat} {sl : Array (Option Value)} {xs : List V} (l : K.lookup a = some ⟨.type "tuple", od, .seq its n, sl⟩) (e : its.toList.map absV = xs.map some) (hz : its.size ≤ sizeLine) (H : Hp) : SqT K H a xs :=
  .inr ⟨_, its, n, l, rfl, rfl, hz, valsAbs e⟩
/-! ### what Kq keeps -/
theorem Rd.kqT {H H' : Hp} {a : Addr} {xs : List V} (k : Kq H H') (h : Rd H a (.tup xs)) : Rd H' a (.tup xs) := by
  rcases h with h | ⟨o, h⟩
  · exact .inl (k.keep _ _ rfl h)
  · exact .inr ⟨o, k.keep _ _ rfl h⟩
theorem SqT.kq {K : PySem.W.Frag} {H H' : Hp} {a : Addr} {xs : List V} (k : Kq H H') (h : SqT K H a xs) : SqT K H' a xs := h.elim (fun z => .inl (Rd.kqT k z)) .inr
theorem SqT.kp {K : PySem.W.Frag} {H H' : Hp} {a : Addr} {xs : List V} (k : Kp [] H H') (h : SqT K H a xs) : SqT K H' a xs := same_sqT k.same h
theorem dpStrs {K : PySem.W.Frag} {H : Hp} : ∀ xs : List Str, DpAll K H (xs.map V.str) (xs.map PyData.str)
  | [] => .nil
  | n :: ns => .cons (.str n) (dpStrs ns)
theorem layStrs : ∀ ns : List Str, (∀ x ∈ ns, PyData.strOk x = true) → PyData.canLayAll0 (ns.map PyData.str) = true
  | [], _ => rfl
  | n :: ns, h => by simp [PyData.canLayAll0, PyData.canLay0, layStrs ns (fun x z => h x (List.mem_cons_of_mem _ z)), h n (List.mem_cons_self ..)]
theorem depStrs : ∀ ns : List Str, PyData.depthAll (ns.map PyData.str) = 0
  | [] => rfl
  | n :: ns => by simp [PyData.depthAll, PyData.depth, depStrs ns]
theorem eqvStrs : ∀ ns ms : List Str, PyData.eqvAll (ns.map PyData.str) (ms.map PyData.str) = decide (ns = ms)
  | [], [] => by simp [PyData.eqvAll]
  | [], m :: ms => by simp [PyData.eqvAll]
  | n :: ns, [] => by simp [PyData.eqvAll]
  | n :: ns, m :: ms => by
    have ih := eqvStrs ns ms
    simp only [List.map_cons, PyData.eqvAll, ih, PyData.eqv, List.cons.injEq]
    by_cases h : n = m <;> by_cases h2 : ns = ms <;> simp [h, h2]
end GB
namespace Tb
open PySem PySem.Spec PyProof.Rows L2 GB
/-! ### tables as data -/
inductive Lie where
  | copied | anyhow | zero
  | dealt (r : Str) (cs : List Str)
deriving DecidableEq
structure Bare where
  name : Str
  cols : List Str
  key : List Str
  lie : Lie
deriving DecidableEq
def Lie.data : Lie → PyData
  | .copied => .tuple [.str "copied"]
  | .anyhow => .tuple [.str "anyhow"]
  | .zero => .tuple [.str "zero"]
  | .dealt r cs => .tuple [.str "dealt", .str r, .tuple (cs.map .str)]
def Bare.data (b : Bare) : PyData := .list [.str b.name, .list (b.cols.map .str), .list (b.key.map .str), b.lie.data]
def LieAt (K : PySem.W.Frag) (H : Hp) (v : V) : Lie → Prop
  | .copied => ∃ a, v = .ref a ∧ SqT K H a [.str "copied"]
  | .anyhow => ∃ a, v = .ref a ∧ SqT K H a [.str "anyhow"]
  | .zero => ∃ a, v = .ref a ∧ SqT K H a [.str "zero"]
  | .dealt r cs => ∃ a b, v = .ref a ∧ SqT K H a [.str "dealt", .str r, .ref b] ∧ SqT K H b (cs.map .str)
def BareAt (K : PySem.W.Frag) (H : Hp) (v : V) (b : Bare) : Prop := ∃ p c k l, v = .ref p ∧ H p = some (.lst [.str b.name, .ref c, .ref k, l]) ∧ StrL H c b.cols ∧ StrL H k b.key ∧ LieAt K H l b.lie
def TabAt (K : PySem.W.Frag) (C : Addr) (H : Hp) (v : V) (b : Bare) : Prop := ∃ p dx c k l, v = .ref p ∧ H p = some (.ins C dx [("name", .str b.name), ("columns", .ref c), ("key", .ref k), ("lies", l)]) ∧ StrL H c b.cols ∧ StrL H k b.key ∧ LieAt K H l b.lie
variable {K : PySem.W.Frag} {H H' : Hp} {v : V} {l : Lie} {b : Bare} {C : Addr}
theorem LieAt.kq (k : Kq H H') (h : LieAt K H v l) : LieAt K H' v l := by
  cases l with
  | dealt r cs => obtain ⟨a, b, e, h1, h2⟩ := h; exact ⟨a, b, e, SqT.kq k h1, SqT.kq k h2⟩
  | _ => obtain ⟨a, e, h1⟩ := h; exact ⟨a, e, SqT.kq k h1⟩
theorem LieAt.same (k : Kp [] H H') (h : LieAt K H v l) : LieAt K H' v l := h.kq k.q
theorem BareAt.kq (k : Kq H H') (h : BareAt K H v b) : BareAt K H' v b := by
  obtain ⟨p, c, d, l, e, h1, h2, h3, h4⟩ := h
  exact ⟨p, c, d, l, e, k.keep _ _ rfl h1, h2.kq k, h3.kq k, h4.kq k⟩
theorem BareAt.same (k : Kp [] H H') (h : BareAt K H v b) : BareAt K H' v b := h.kq k.q
theorem TabAt.kq (k : Kq H H') (h : TabAt K C H v b) : TabAt K C H' v b := by
  obtain ⟨p, dx, c, d, l, e, h1, h2, h3, h4⟩ := h
  exact ⟨p, dx, c, d, l, e, k.keep _ _ rfl h1, h2.kq k, h3.kq k, h4.kq k⟩
theorem TabAt.same (k : Kp [] H H') (h : TabAt K C H v b) : TabAt K C H' v b := h.kq k.q
theorem LieAt.dp (h : LieAt K H v l) : Dp K H v l.data := by
  cases l with
  | dealt r cs => obtain ⟨a, b, rfl, h1, h2⟩ := h; exact .tup h1 (.cons (.str _) (.cons (.str _) (.cons (.tup h2 (dpStrs cs)) .nil)))
  | _ => obtain ⟨a, rfl, h1⟩ := h; exact .tup h1 (.cons (.str _) .nil)
theorem StrL.dp {a : Addr} {xs : List Str} (h : StrL H a xs) : Dp K H (.ref a) (.list (xs.map .str)) := .lst (SqL.of h) (dpStrs xs)
theorem BareAt.dp (h : BareAt K H v b) : Dp K H v b.data := by
  obtain ⟨p, c, d, l, rfl, h1, h2, h3, h4⟩ := h
  exact .lst (SqL.of h1) (.cons (.str _) (.cons (StrL.dp h2) (.cons (StrL.dp h3) (.cons h4.dp .nil))))
def Lie.sok : Lie → Prop
  | .dealt r cs => PyData.strOk r = true ∧ ∀ x ∈ cs, PyData.strOk x = true
  | _ => True
structure Bare.sok (b : Bare) : Prop where
  name : PyData.strOk b.name = true
  cols : ∀ x ∈ b.cols, PyData.strOk x = true
  key : ∀ x ∈ b.key, PyData.strOk x = true
  lie : b.lie.sok
theorem wordsOk : PyData.strOk "copied" = true ∧ PyData.strOk "anyhow" = true ∧ PyData.strOk "zero" = true ∧ PyData.strOk "dealt" = true := by decide +kernel
theorem Lie.lay (l : Lie) (h : l.sok) : l.data.canLay0 = true := by
  cases l with
  | dealt r cs => simp [Lie.data, PyData.canLay0, PyData.canLayAll0, layStrs cs h.2, h.1, wordsOk.2.2.2]
  | copied => simp [Lie.data, PyData.canLay0, PyData.canLayAll0, wordsOk.1]
  | anyhow => simp [Lie.data, PyData.canLay0, PyData.canLayAll0, wordsOk.2.1]
  | zero => simp [Lie.data, PyData.canLay0, PyData.canLayAll0, wordsOk.2.2.1]
theorem Lie.dep (l : Lie) : l.data.depth ≤ 2 := by
  cases l <;> simp [Lie.data, PyData.depth, PyData.depthAll, depStrs]
theorem Lie.shaped (l : Lie) (h : l.sok) : SeqAt.shaped l.data = true := by
  have := l.dep
  simp [SeqAt.shaped, l.lay h]; omega
theorem Bare.shaped (b : Bare) (h : b.sok) : SeqAt.shaped b.data = true := by
  have := b.lie.dep
  simp [SeqAt.shaped, Bare.data, PyData.canLay0, PyData.canLayAll0, PyData.depth, PyData.depthAll, layStrs _ h.cols, layStrs _ h.key, h.name, b.lie.lay h.lie, depStrs]; omega
theorem beq_dec (a b : Str) : (a == b) = decide (a = b) := by
  by_cases h : a = b
  · subst h; simp
  · simp [h]
theorem Lie.eqv (l m : Lie) : PyData.eqv l.data m.data = decide (l = m) := by
  cases l <;> cases m <;> first | (simp [Lie.data, PyData.eqv, PyData.eqvAll, eqvStrs, beq_dec]; done) | (simp [Lie.data, PyData.eqv, PyData.eqvAll, eqvStrs]; decide)
theorem Bare.eqv (b c : Bare) : PyData.eqv b.data c.data = decide (b = c) := by
  obtain ⟨n, cs, ks, l⟩ := b
  obtain ⟨n', cs', ks', l'⟩ := c
  simp only [Bare.data, PyData.eqv, PyData.eqvAll, eqvStrs, Lie.eqv, Bare.mk.injEq, beq_dec]
  simp [Bool.decide_and]
end Tb

namespace G1
open PySem PySem.Spec PyProof.Rows L2 GB
/-- a method with keyword-only parameters, all with defaults -/
structure MthD (K : PySem.W.Frag) (C : Addr) (m qual : Str) (st : Stmt) (kws : List (Str × V)) : Prop where
  ex : ∃ (f : Addr) (fd : FuncData), FunD K m qual (defArgs st) (defBody st) (defScope st) [] kws f fd ∧ PySem.W.findIn K (.ref C) m = some (some (.ref f)) ∧ PySem.W.isFn K (.ref f) = true
/-- C(e, .., k = v, ..): n values, then those of the keywords ks; gV puts them in the parameters' order -/
structure KMk (P : Program) (w : World) (K : PySem.W.Frag) (mg : Str → Option Value) (base : Heap) (k : Nat) (x : Str) (C : Addr) (n : Nat) (ks : List Str) (gV : List V → List V → List V) (sp : Sp) : Prop where
  ex : ∃ (f : Addr) (fd : FuncData) (ps : List Str) (g : List Value → List Value → List Value), Mk K C f ∧ FnOk P w K mg base CX0 k f fd ps sp ∧ mg x = some (.ref C) ∧ KBn K fd ps (n + 1) ks g gV
section
variable {P : Program} {w : World} {K : PySem.W.Frag} {mg : Str → Option Value} {base : Heap}
theorem kmk {k : Nat} {x qual : Str} {C : Addr} {st : Stmt} {N ps : List Str} {sp : Sp} {kws : List (Str × V)} (D : MthD K C "__init__" qual st kws) (Kc : Kls K mg x C) (S : FnScope N ps (defScope st))
    (len : ∀ vs H Q E, sp vs H Q E → vs.length = ps.length)
    (body : ∀ (f : Addr) (cdv : Value) (A : Around) (outer : List Env) (s : Shared) (H : Hp) (vs : List V) (Q : VK) (E : XK),
      Room k (A.deeper (envOfC qual (defScope st) s.heap.objs.size f cdv)) → sp vs H Q E →
      ∃ t, PSs (cxOf CX0 P w K mg base N qual (defScope st) f cdv A outer s H E).nox (defBody st) t ∧ t { nx := fun _ H' => Q .non H', rt := Q } (start N vs) H)
    (n : Nat) (ks : List Str) (ms : List (Str × V)) (g : {α : Type} → List α → List α → List α → List α) (hk : kws ≠ []) (hms : ∀ q ∈ ms, q ∈ kws)
    (hrel : ∀ {vs mz zs : List V} {us mv ws : List Value}, Vals vs us → Vals mz mv → Vals zs ws → Vals (g vs mz zs) (g us mv ws))
    (h : ∀ (D : Addr) (doc pm : Value) (an : Option Addr) (cdv ct : Value) (us mv ws : List Value), us.length = n + 1 → mv.length = ms.length → ws.length = ks.length →
      KwChain D ((ms.map (·.1)).zip mv) (bindArgs (PySem.W.fnOf "__init__" qual (defArgs st) (defBody st) (defScope st) .none (.ref D) doc pm an cdv ct) ⟨us, ks.zip ws⟩) (ps.zip (g us mv ws))) :
    KMk P w K mg base (k + 1) x C n ks (fun vs zs => g vs (ms.map (·.2)) zs) sp := by
  obtain ⟨f, fd, F, a, i⟩ := D.ex
  obtain ⟨mv, hb⟩ := F.kbinds0 (n + 1) ks ms g hk hms hrel h
  obtain ⟨oc, od, dV, kV, doc, pm, an, cdv, ct, osl, rfl, lk, hcd, _, _⟩ := F.ex
  refine ⟨f, _, ps, _, ⟨Kc.makes, a, i, Kc.kp⟩, fn_of lk hcd S len (fun A outer s H vs Q E hr hsp => ?_), Kc.at_, hb⟩
  obtain ⟨t, h, q⟩ := body f cdv A outer s H vs Q E hr hsp
  exact ⟨t, h.nox, q⟩
theorem mthD_mk {m qual : Str} {C D : Addr} {st : Stmt} {f : Addr} {oc : Value} {od an : Option Addr} {osl : Array (Option Value)} {doc pm cdv ct : Value} {kws : List (Str × V)}
    (a : PySem.W.findIn K (.ref C) m = some (some (.ref f))) (i : PySem.W.isFn K (.ref f) = true) (l : K.lookup f = some ⟨oc, od, .func (PySem.W.fnOf m qual (defArgs st) (defBody st) (defScope st) .none (.ref D) doc pm an cdv ct), osl⟩)
    (c : PySem.W.codeIn K cdv qual = true) (k : PySem.W.keepIn K (.ref f) = true) (hq : ∀ q ∈ kws, ∃ u, PySem.W.nsIn K D q.1 = some (some u) ∧ RelV q.2 u) : MthD K C m qual st kws :=
  ⟨f, _, ⟨⟨oc, od, _, _, doc, pm, an, cdv, ct, osl, rfl, l, c, .inl ⟨rfl, rfl⟩, .inr ⟨D, rfl, hq⟩⟩, k⟩, a, i⟩
end
section
variable {X : Cx} {k j n : Nat} {C : Addr} {x : Str} {sp : Sp} {p pos : Pos} {e : Expr} {es : List Expr} {kws : List Keyword} {t tk : TA} {ks : List Str} {gV : List V → List V → List V}
theorem pe_kmk (c : KMk X.prog X.w X.K X.mg X.base k x C n ks gV sp) (hr : Room j X.A) (hk : k + 1 ≤ j) (hg : Gl X x) (ha : PA X (e :: es) t) (hkw : PK X kws tk)
    (hall : (backToKw pos (keywordEach kws X.env)).all (·.1.isSome) = true := by rfl) (hks : (backToKw pos (keywordEach kws X.env)).filterMap (·.1) = ks := by rfl) (hdb : (x == ("__debug__" : Str)) = false := by decide)
    (he : starEach (e :: es) X.env = (false, eval e X.env) :: starEach es X.env := by rfl) (hpl : ((backTo pos (starEach (e :: es) X.env)).any (·.1) || (backToKw pos (keywordEach kws X.env)).any (·.1.isNone)) = false := by rfl) :
    PE X (.Call (.Name x p) (e :: es) kws pos) (tMakeK C n ks.length sp gV E0 t tk) := by
  obtain ⟨f, fd, ps, g, M, F, hm, hb⟩ := c.ex
  exact pe_makeK M F (hr.mono hk) hg hm hb pass0 ha hkw hall hks hdb he hpl
end
end G1

namespace Tb
open PySem PySem.Spec PyProof.Rows L2 GB
/-! ### an instance is written: what else stands stays -/
section
variable {K : PySem.W.Frag} {H : Hp} {x dx C a : Addr} {fs : List (Str × V)} {o : HO} {xs : List V}
theorem putI {b : Addr} {u : HO} (h : H x = some (.ins C dx fs)) (n : ∀ C dx fs, u ≠ .ins C dx fs) (e : H b = some u) : upd H x o b = some u := by
  rw [upd_ne (fun z => by subst z; rw [h] at e; exact n _ _ _ (Option.some.inj e).symm)]; exact e
theorem Rd.put {u : HO} (h : H x = some (.ins C dx fs)) (n : ∀ C dx fs, u ≠ .ins C dx fs) (e : Rd H a u) : Rd (upd H x o) a u := by
  rcases e with e | ⟨z, e⟩
  · exact .inl (putI h n e)
  · exact .inr ⟨z, putI h (fun _ _ _ w => nomatch w) e⟩
theorem SqT.put (h : H x = some (.ins C dx fs)) (e : SqT K H a xs) : SqT K (upd H x o) a xs := e.elim (fun z => .inl (Rd.put h (fun _ _ _ w => nomatch w) z)) .inr
theorem SqL.put (h : H x = some (.ins C dx fs)) (e : SqL K H a xs) : SqL K (upd H x o) a xs := e.elim (fun z => .inl (Rd.put h (fun _ _ _ w => nomatch w) z)) .inr
theorem SqA.put (h : H x = some (.ins C dx fs)) (e : SqA K H a xs) : SqA K (upd H x o) a xs := e.elim (fun z => .inl (SqL.put h z)) fun z => .inr (SqT.put h z)
theorem StrL.put {ys : List Str} (h : H x = some (.ins C dx fs)) (e : StrL H a ys) : StrL (upd H x o) a ys := putI h (fun _ _ _ w => nomatch w) e
theorem LieAt.put {v : V} {l : Lie} (h : H x = some (.ins C dx fs)) (e : LieAt K H v l) : LieAt K (upd H x o) v l := by
  cases l with
  | dealt r cs => obtain ⟨a, b, e, h1, h2⟩ := e; exact ⟨a, b, e, SqT.put h h1, SqT.put h h2⟩
  | _ => obtain ⟨a, e, h1⟩ := e; exact ⟨a, e, SqT.put h h1⟩
end
end Tb

namespace GB
open PySem PySem.Spec PyProof.Rows L2
section
variable {X : Cx} {T id : String} {name : Str} {r : V → List V → Hp → VK → Prop} {o e : Expr} {es : List Expr} {to : TE} {t : TA} {apos cpos : Pos}
theorem pe_bmK {K : PySem.W.Frag} (hK : X.K = K) (pa : PlainAttrs T) (slot : Slot T name id) (hty : typeOf (.builtin id) = pure (.type "method_descriptor")) (hm : MtR X id r) (ho : PE X o to) (ha : PA X (e :: es) t)
    (hbase : attributeBase o name X.env (eval o X.env) = eval o X.env := by rfl)
    (hfew : ((backTo cpos (starEach (e :: es) X.env)).all (fun x => !x.1) && (backToKw cpos (keywordEach [] X.env)).all (fun x => x.1.isSome)
      && decide ((e :: es).length + ([] : List Keyword).length + (if ([] : List Keyword).isEmpty then 0 else 1) < 30)) = true := by rfl)
    (hline : (apos.endLine == cpos.line) = true := by rfl) (hs : starEach (e :: es) X.env = (false, eval e X.env) :: starEach es X.env := by rfl) (hplain : (backTo cpos (starEach es X.env)).any (·.1) = false := by rfl) :
    PE X (.Call (.Attribute o name apos) (e :: es) [] cpos) (tBM K T r to t) := hK ▸ pe_bm pa slot hty hm ho ha hbase hfew hline hs hplain
theorem call_len_seqK {K : PySem.W.Frag} (hK : X.K = K := by rfl) : CallR X (.builtin "len") (fun xs H Q => ∃ p ys, xs = [.ref p] ∧ (SqL K H p ys ∨ SqT K H p ys) ∧ Q (.int ys.length) H) := hK ▸ call_len_seq
end
end GB
namespace G1
open PySem PySem.Spec PyProof.Rows L2 GB
/-- a star def: what stands behind its plain parameters comes as a new tuple -/
def spStar (n : Nat) (sp : Sp) : Sp := fun vs H Q E => ∃ ws rest, vs = ws ++ rest ∧ ws.length = n ∧ rest.length ≤ sizeLine ∧ ∀ p, H p = Option.none → sp (ws ++ [V.ref p]) (upd H p (.tup rest)) Q E
structure MetR (P : Program) (w : World) (K : PySem.W.Frag) (mg : Str → Option Value) (base : Heap) (k : Nat) (C : Addr) (m : Str) (sp : Sp) : Prop where
  ex : ∃ f : Addr, FnR P w K mg base CX0 k f sp ∧ PySem.W.findIn K (.ref C) m = some (some (.ref f)) ∧ PySem.W.isFn K (.ref f) = true ∧ PySem.W.keepIn K (.ref f) = true
structure CalR (P : Program) (w : World) (K : PySem.W.Frag) (mg : Str → Option Value) (base : Heap) (k : Nat) (x : Str) (sp : Sp) : Prop where
  ex : ∃ f : Addr, FnR P w K mg base CX0 k f sp ∧ mg x = some (.ref f) ∧ PySem.W.keepIn K (.ref f) = true
section
variable {P : Program} {w : World} {K : PySem.W.Frag} {mg : Str → Option Value} {base : Heap}
theorem metR {k : Nat} {C : Addr} {m qual pv : Str} {st : Stmt} {N ps : List Str} {sp : Sp} (D : Mth K C m qual st) (S : FnScope N (ps ++ [pv]) (defScope st))
    (hb : ∀ (kV doc pm : Value) (an : Option Addr) (cdv ct : Value) (us rest : List Value), us.length = ps.length → bindArgs (PySem.W.fnOf m qual (defArgs st) (defBody st) (defScope st) .none kV doc pm an cdv ct) ⟨us ++ rest, []⟩ = (newTuple rest >>= fun t => pure (ps.zip us ++ [(pv, t)])))
    (body : ∀ (f : Addr) (cdv : Value) (A : Around) (outer : List Env) (s : Shared) (H : Hp) (vs : List V) (Q : VK) (E : XK),
      Room k (A.deeper (envOfC qual (defScope st) s.heap.objs.size f cdv)) → sp vs H Q E →
      ∃ t, PSs (cxOf CX0 P w K mg base N qual (defScope st) f cdv A outer s H E).nox (defBody st) t ∧ t { nx := fun _ H' => Q .non H', rt := Q } (start N vs) H) :
    MetR P w K mg base (k + 1) C m (spStar ps.length sp) := by
  obtain ⟨f, fd, F, a, i⟩ := D.ex
  obtain ⟨oc, od, kV, doc, pm, an, cdv, ct, osl, rfl, lk, hcd⟩ := F.ex
  refine ⟨f, StX.fn_star lk hcd S StX.cxUp_none (hb kV doc pm an cdv ct) (fun A outer s H vs Q E hr hsp => ?_), a, i, F.kp⟩
  obtain ⟨t, h, q⟩ := body f cdv A outer s H vs Q E hr hsp
  exact ⟨t, h.nox, q⟩
theorem calR {k : Nat} {x pv : Str} {st : Stmt} {N ps : List Str} {sp : Sp} (D : Dfn K mg x st) (S : FnScope N (ps ++ [pv]) (defScope st))
    (hb : ∀ (kV doc pm : Value) (an : Option Addr) (cdv ct : Value) (us rest : List Value), us.length = ps.length → bindArgs (PySem.W.fnOf x x (defArgs st) (defBody st) (defScope st) .none kV doc pm an cdv ct) ⟨us ++ rest, []⟩ = (newTuple rest >>= fun t => pure (ps.zip us ++ [(pv, t)])))
    (body : ∀ (f : Addr) (cdv : Value) (A : Around) (outer : List Env) (s : Shared) (H : Hp) (vs : List V) (Q : VK) (E : XK),
      Room k (A.deeper (envOfC x (defScope st) s.heap.objs.size f cdv)) → sp vs H Q E →
      ∃ t, PSs (cxOf CX0 P w K mg base N x (defScope st) f cdv A outer s H E).nox (defBody st) t ∧ t { nx := fun _ H' => Q .non H', rt := Q } (start N vs) H) :
    CalR P w K mg base (k + 1) x (spStar ps.length sp) := by
  obtain ⟨f, fd, F, a⟩ := D.ex
  obtain ⟨oc, od, kV, doc, pm, an, cdv, ct, osl, rfl, lk, hcd⟩ := F.ex
  refine ⟨f, StX.fn_star lk hcd S StX.cxUp_none (hb kV doc pm an cdv ct) (fun A outer s H vs Q E hr hsp => ?_), a, F.kp⟩
  obtain ⟨t, h, q⟩ := body f cdv A outer s H vs Q E hr hsp
  exact ⟨t, h.nox, q⟩
end
section
variable {X : Cx} {k j : Nat} {C : Addr} {x m : Str} {sp : Sp} {p pos apos : Pos} {e o : Expr} {es : List Expr} {ta : TE} {t : TA}
theorem run_R {f : Addr} {pins : List (Addr × Obj)} {σ : L2.St} {H : Hp} {s : Shared} {Q : VK} {us : List Value} {vs : List V} (F : FnR X.prog X.w X.K X.mg X.base CX0 k f sp) (hr : Room k X.A) (I : Inv X pins σ H s) (r : Vals vs us) (h : sp vs H Q E0) :
    wpAny (model X.prog X.w) X.A (call (.ref f) us) (EP X pins σ Q) X.xe s := by
  refine wpAny_call (codeAny_mono (F X.A X.stack s H us vs Q E0 hr I.env0 r h) fun res s' hq => ?_)
  match res, hq with
  | .error e, hq => exact False.elim hq
  | .ok (.ret u), hq => exact I.after hq
  | .ok .next, hq => exact False.elim hq
  | .ok .brk, hq => exact False.elim hq
  | .ok .cont, hq => exact False.elim hq
theorem pe_mtR {pl : Sem Bool} (cl : Cls X.K C) (c : MetR X.prog X.w X.K X.mg X.base k C m sp) (hr : Room j X.A) (hk : k ≤ j) (ho : PE X o ta) (ha : PA X (e :: es) t)
    (hst : starEach (e :: es) X.env = (false, eval e X.env) :: starEach es X.env := by rfl) (hpl : (backTo pos (starEach es X.env)).any (·.1) = false := by rfl)
    (ht : eval (.Call (.Attribute o m apos) (e :: es) [] pos) X.env = (do
      let recv ← eval o X.env
      standAt apos.atName
      let (fn, one) ← holding [recv] (getMethod recv m pl)
      callWith pos fn one (backTo pos (starEach (e :: es) X.env)) (backToKw pos (keywordEach [] X.env))) := by rfl) :
    PE X (.Call (.Attribute o m apos) (e :: es) [] pos) (tMeth C m sp [] E0 ta t) := by
  obtain ⟨f, F, fi, isf, kf⟩ := c.ex
  refine ⟨fun pins s σ H Q I h => PySem.W.methodCall_KW (pl := pl) (thn (ho.run pins s σ H _ I h) ?_) ht⟩
  rintro u s1 ⟨y, H1, I1, ry, a, dx, fs, rfl, ea, l, q⟩
  obtain rfl : u = Value.ref a := ry
  refine getmeth_ok I1 ea cl ⟨fi, isf, kf⟩ l ?_
  refine PySem.W.callWith_K (first := [.ref a]) (h₀ := X.base) I.ok.mod.kin kf (thn (ha.run pos pins s1 σ H1 _ I1 q) ?_) hst hpl
  rintro us s2 ⟨vs, H2, I2, r, q2⟩
  rw [List.append_nil] at q2
  exact ⟨I2.kIn, run_R (us := .ref a :: us) (vs := .ref a :: vs) F (hr.mono hk) I2 (.cons rfl r) q2⟩
theorem pe_mtR0 {pl : Sem Bool} (cl : Cls X.K C) (c : MetR X.prog X.w X.K X.mg X.base k C m sp) (hr : Room j X.A) (hk : k ≤ j) (ho : PE X o ta)
    (ht : eval (.Call (.Attribute o m apos) [] [] pos) X.env = (do
      let recv ← eval o X.env
      standAt apos.atName
      let (fn, one) ← holding [recv] (getMethod recv m pl)
      callWith pos fn one (backTo pos (starEach [] X.env)) (backToKw pos (keywordEach [] X.env))) := by rfl) :
    PE X (.Call (.Attribute o m apos) [] [] pos) (tMeth C m sp [] E0 ta tNil) := by
  obtain ⟨f, F, fi, isf, kf⟩ := c.ex
  refine ⟨fun pins s σ H Q I h => PySem.W.methodCall_KW (pl := pl) (thn (ho.run pins s σ H _ I h) ?_) ht⟩
  rintro u s1 ⟨y, H1, I1, ry, a, dx, fs, rfl, ea, l, q⟩
  obtain rfl : u = Value.ref a := ry
  refine getmeth_ok I1 ea cl ⟨fi, isf, kf⟩ l ?_
  exact PySem.W.callWith_K0 (first := [.ref a]) I1.kIn kf (run_R (us := [.ref a]) (vs := [.ref a]) F (hr.mono hk) I1 (.cons rfl .nil) q)
theorem pe_cR (c : CalR X.prog X.w X.K X.mg X.base k x sp) (hr : Room j X.A) (hk : k ≤ j) (hg : Gl X x) (ha : PA X (e :: es) t)
    (hdb : (x == ("__debug__" : Str)) = false := by decide) (he : starEach (e :: es) X.env = (false, eval e X.env) :: starEach es X.env := by rfl) (hpl : (backTo pos (starEach es X.env)).any (·.1) = false := by rfl) :
    PE X (.Call (.Name x p) (e :: es) [] pos) (fun σ H Q => t σ H fun vs H1 => sp vs H1 Q E0) := by
  obtain ⟨f, F, hm, kp⟩ := c.ex
  refine ⟨fun pins s σ H Q I h => wpAny_Call_Name_kw (ld_glob I hg hm ?_ hdb)⟩
  refine PySem.W.callWith_K (h₀ := X.base) I.ok.mod.kin kp (thn (ha.run pos pins s σ H _ I h) fun us s1 ⟨vs, H1, I1, r, q⟩ => ⟨I1.kIn, ?_⟩) he hpl
  exact run_R F (hr.mono hk) I1 r q
end
end G1

namespace K14
open PySem L2 GB G1 Tb
def top (i : Nat) : Stmt := PySem.Challenge.pw_splitplans_k14_tables_told.main.body.getD i (.Pass ⟨0, 0, 0, 0⟩)
abbrev s_is_name : Stmt := top 9
abbrev N_is_name : List Str := ["thing", "sign"]
theorem sc_is_name : FnScope N_is_name ["thing"] (defScope s_is_name) := ⟨rfl, rfl, rfl, by decide +kernel, rfl, by decide +kernel, by decide +kernel⟩
abbrev s_is_unlike : Stmt := top 10
abbrev N_is_unlike : List Str := ["things", "at"]
theorem sc_is_unlike : FnScope N_is_unlike ["things"] (defScope s_is_unlike) := ⟨rfl, rfl, rfl, by decide +kernel, rfl, by decide +kernel, by decide +kernel⟩
abbrev s_is_lie : Stmt := top 14
abbrev N_is_lie : List Str := ["columns", "lies", "column"]
theorem sc_is_lie : FnScope N_is_lie ["columns", "lies"] (defScope s_is_lie) := ⟨rfl, rfl, rfl, by decide +kernel, rfl, by decide +kernel, by decide +kernel⟩
abbrev s_Table_init : Stmt := inClass (top 15) 1
abbrev N_Table_init : List Str := ["self", "name", "columns", "key", "lies", "column"]
theorem sc_Table_init : FnScope N_Table_init ["self", "name", "columns", "key", "lies"] (defScope s_Table_init) := ⟨rfl, rfl, rfl, by decide +kernel, rfl, by decide +kernel, by decide +kernel⟩
abbrev s_Table_with_lie : Stmt := inClass (top 15) 2
abbrev N_Table_with_lie : List Str := ["self", "lies"]
theorem sc_Table_with_lie : FnScope N_Table_with_lie ["self", "lies"] (defScope s_Table_with_lie) := ⟨rfl, rfl, rfl, by decide +kernel, rfl, by decide +kernel, by decide +kernel⟩
abbrev s_Table_with_key : Stmt := inClass (top 15) 3
abbrev N_Table_with_key : List Str := ["self", "columns"]
theorem sc_Table_with_key : FnScope N_Table_with_key ["self", "columns"] (defScope s_Table_with_key) := ⟨rfl, rfl, rfl, by decide +kernel, rfl, by decide +kernel, by decide +kernel⟩
abbrev s_Table_eq : Stmt := inClass (top 15) 4
abbrev N_Table_eq : List Str := ["self", "other"]
theorem sc_Table_eq : FnScope N_Table_eq ["self", "other"] (defScope s_Table_eq) := ⟨rfl, rfl, rfl, by decide +kernel, rfl, by decide +kernel, by decide +kernel⟩
abbrev s_Table_str : Stmt := inClass (top 15) 5
abbrev N_Table_str : List Str := ["self", "words"]
theorem sc_Table_str : FnScope N_Table_str ["self"] (defScope s_Table_str) := ⟨rfl, rfl, rfl, by decide +kernel, rfl, by decide +kernel, by decide +kernel⟩
abbrev s_law_pen : Stmt := top 17
abbrev N_law_pen : List Str := ["_law_script"]
theorem sc_law_pen : FnScope N_law_pen ["_law_script"] (defScope s_law_pen) := ⟨rfl, rfl, rfl, by decide +kernel, rfl, by decide +kernel, by decide +kernel⟩
abbrev s_law_draw : Stmt := top 18
abbrev N_law_draw : List Str := ["_law_pen_here", "_law_many", "_law_digit", "_law_at", "_law_cell", "_law_great", "_law_mixed"]
theorem sc_law_draw : FnScope N_law_draw ["_law_pen_here", "_law_many"] (defScope s_law_draw) := ⟨rfl, rfl, rfl, by decide +kernel, rfl, by decide +kernel, by decide +kernel⟩
abbrev s_law_pick : Stmt := top 19
abbrev N_law_pick : List Str := ["_law_pen_here", "_law_some_here"]
theorem sc_law_pick : FnScope N_law_pick ["_law_pen_here", "_law_some_here"] (defScope s_law_pick) := ⟨rfl, rfl, rfl, by decide +kernel, rfl, by decide +kernel, by decide +kernel⟩
abbrev s_law_some : Stmt := top 20
abbrev N_law_some : List Str := ["_law_pen_here", "_law_pool", "_law_least", "_law_most", "_law_left", "_law_many", "_law_turn"]
theorem sc_law_some : FnScope N_law_some ["_law_pen_here", "_law_pool", "_law_least", "_law_most"] (defScope s_law_some) := ⟨rfl, rfl, rfl, by decide +kernel, rfl, by decide +kernel, by decide +kernel⟩
abbrev s_law_names : Stmt := top 21
abbrev N_law_names : List Str := ["_law_pen_here", "_law_many", "_law_pool", "_law_found", "_law_signs", "_law_tail", "_law_turn", "_law_k"]
theorem sc_law_names : FnScope N_law_names ["_law_pen_here", "_law_many"] (defScope s_law_names) := ⟨rfl, rfl, rfl, by decide +kernel, rfl, by decide +kernel, by decide +kernel⟩
abbrev s_law_lie : Stmt := top 22
abbrev N_law_lie : List Str := ["_law_pen_here", "_law_columns", "_law_dealt"]
theorem sc_law_lie : FnScope N_law_lie ["_law_pen_here", "_law_columns"] (defScope s_law_lie) := ⟨rfl, rfl, rfl, by decide +kernel, rfl, by decide +kernel, by decide +kernel⟩
abbrev s_law_bare : Stmt := top 23
abbrev N_law_bare : List Str := ["_law_pen_here", "_law_columns", "_law_asked"]
theorem sc_law_bare : FnScope N_law_bare ["_law_pen_here"] (defScope s_law_bare) := ⟨rfl, rfl, rfl, by decide +kernel, rfl, by decide +kernel, by decide +kernel⟩
abbrev s_law_made : Stmt := top 24
abbrev N_law_made : List Str := ["_law_pen_here", "_law_bare_here", "_law_name", "_law_columns", "_law_asked", "_law_lie_here"]
theorem sc_law_made : FnScope N_law_made ["_law_pen_here", "_law_bare_here"] (defScope s_law_made) := ⟨rfl, rfl, rfl, by decide +kernel, rfl, by decide +kernel, by decide +kernel⟩
abbrev s_law_row_of : Stmt := top 25
abbrev N_law_row_of : List Str := ["_law_bare_here", "_law_name", "_law_columns", "_law_asked", "_law_lie_here", "_law_words"]
theorem sc_law_row_of : FnScope N_law_row_of ["_law_bare_here"] (defScope s_law_row_of) := ⟨rfl, rfl, rfl, by decide +kernel, rfl, by decide +kernel, by decide +kernel⟩
abbrev s_law_is : Stmt := top 26
abbrev N_law_is : List Str := ["_law_table", "_law_bare_here", "_law_told"]
theorem sc_law_is : FnScope N_law_is ["_law_table", "_law_bare_here"] (defScope s_law_is) := ⟨rfl, rfl, rfl, by decide +kernel, rfl, by decide +kernel, by decide +kernel⟩
abbrev s_law_other : Stmt := top 27
abbrev N_law_other : List Str := ["_law_pen_here", "_law_bare_here", "_law_name", "_law_columns", "_law_asked", "_law_lie_here", "_law_way"]
theorem sc_law_other : FnScope N_law_other ["_law_pen_here", "_law_bare_here"] (defScope s_law_other) := ⟨rfl, rfl, rfl, by decide +kernel, rfl, by decide +kernel, by decide +kernel⟩
abbrev s_law_keyed : Stmt := top 28
abbrev N_law_keyed : List Str := ["_law_table", "_law_asked"]
theorem sc_law_keyed : FnScope N_law_keyed ["_law_table", "_law_asked"] (defScope s_law_keyed) := ⟨rfl, rfl, rfl, by decide +kernel, rfl, by decide +kernel, by decide +kernel⟩
abbrev s_law : Stmt := top 29
abbrev N_law : List Str := ["_law_script", "_law_pen_here", "_law_turn", "_law_bare_here", "_law_table", "_law_other_here", "_law_second", "_law_asked", "_law_lie_here", "_law_columns", "_law_held", "_law_third"]
theorem sc_law : FnScope N_law ["_law_script"] (defScope s_law) := ⟨rfl, rfl, rfl, by decide +kernel, rfl, by decide +kernel, by decide +kernel⟩
def words : List Str := ["table", "key", "dealt", "anyhow", "copied", "zero", "scan", "where", "compute", "equal", "keep", "distinct", "group", "with", "count", "sum", "sort", "own", "split", "broadcast", "gather", "merge", "join", "semi", "anti", "union", "answer", "in", "self"]
def first : Str := "abcdefghijklmnopqrstuvwxyz"
def later : Str := "abcdefghijklmnopqrstuvwxyz0123456789_"
structure Txt (K : PySem.W.Frag) (mg : Str → Option Value) (aW aP C : Addr) : Prop where
  n_int : mg "int" = none
  n_len : mg "len" = none
  n_abs : mg "abs" = none
  n_list : mg "list" = none
  n_range : mg "range" = none
  n_repr : mg "repr" = none
  n_isinstance : mg "isinstance" = none
  n_all : mg "all" = none
  n_str : mg "str" = none
  n_tuple : mg "tuple" = none
  n_min : mg "min" = none
  k_Table : mg "Table" = some (.ref C)
  g_WORDS : ∃ u, mg "WORDS" = some u ∧ RelV (.ref aW) u
  g_FIRST : ∃ u, mg "FIRST" = some u ∧ RelV (.str first) u
  g_LATER : ∃ u, mg "LATER" = some u ∧ RelV (.str later) u
  g_MOST_SIGNS : ∃ u, mg "MOST_SIGNS" = some u ∧ RelV (.int 8) u
  g_MOST_RULED : ∃ u, mg "MOST_RULED" = some u ∧ RelV (.int 3) u
  g_PLAIN_LIES : ∃ u, mg "PLAIN_LIES" = some u ∧ RelV (.ref aP) u
  tW : ∀ H, SqT K H aW (words.map V.str)
  tP : ∃ a b c, ∀ H, SqT K H aP [.ref a, .ref b, .ref c] ∧ SqT K H a [.str "copied"] ∧ SqT K H b [.str "anyhow"] ∧ SqT K H c [.str "zero"]
/-- one text stands in another -/
def inS (x y : Str) : Bool := !(Builtin.Str.occurrences y x 0 y.length 1).isEmpty
def nameB (x : Str) : Bool := decide (1 ≤ x.length ∧ x.length ≤ 8) && !inV (.str x) (words.map V.str) && (match x.cps.toList with | [] => false | c :: _ => inS ⟨#[c]⟩ first) && x.cps.toList.all fun c => inS ⟨#[c]⟩ later
def spName : Sp := fun vs H Q _ => ∃ x, vs = [.str x] ∧ x.length ≤ 1000 ∧ ∀ H', Kp [] H H' → Q (.bl (nameB x)) H'
section
variable {P : Program} {w : World} {K : PySem.W.Frag} {mg : Str → Option Value} {base : Heap} {aW aP C : Addr}
theorem cName (D : Dfn K mg "is_name" s_is_name) (T : Txt K mg aW aP C) : Cal P w K mg base 1 "is_name" spName := by
  refine cal D sc_is_name (fun _ _ _ _ _ _ us hl => match us, hl with | [_], _ => rfl) (fun vs H Q E h => ?_) (fun f cdv A outer s H vs Q E hr h => ?_)
  · obtain ⟨x, rfl, _⟩ := h; rfl
  · obtain ⟨x, rfl, hl, k⟩ := h
    refine ⟨_, (pss_cut (ps_if (PW.pt (pw_or (pt_not (pt_val (pe_callB (call_isB "str") (by rfl) T.n_isinstance (by decide +kernel) (pa_cons (pv 0) (pa_cons (pe_bltn (v := .ty "str") (u := .type "str") rfl T.n_str (by decide +kernel) rfl) pa_nil))))) (pw_or (pt_not (pt_chain op_le op_le pe_int (pe_callB call_len_str (by rfl) T.n_len (by decide +kernel) (pa_cons (pv 0) pa_nil)) (pe_gc rfl T.g_MOST_SIGNS))) (pw_or1 (pt_cmpR op_in_seq (pv 0) (pe_gc rfl T.g_WORDS) (by rfl)))))) (pss_one (ps_ret pe_bl)) pss_nil)
      (pss_one (ps_ret (pe_and (pe_cmpR op_in_str (pe_ix ix_str (pv 0) pe_int (fun _ _ => rfl)) (pe_gc rfl T.g_FIRST) (by rfl)) (pe_one (pe_callB (cr_all rfl) (by rfl) T.n_all (by decide +kernel) (pa_cons (pe_lc (own := [("sign", 1)]) (by rfl) sc_is_name.nd (pi_str (pv 0)) (blkOk_by (own := [("sign", 1)]) (N := N_is_name) (sc := defScope s_is_name) (by decide +kernel)) (fun _ _ _ _ _ => pg_name (i := 1) sc_is_name.nd rfl (Or.inl rfl)) (fun _ _ _ _ _ => pts_nil) (fun _ _ _ _ _ => pe_cmpR op_in_str (pv 1) (pe_gc rfl T.g_LATER) (by rfl))) pa_nil))))))), ?_⟩
    show (_ : TS) _ [some (V.str x), none] H
    have hz : x.length ≤ sizeLine := Nat.le_trans hl (by decide)
    refine ⟨fun σ' H' => σ' = [some (V.str x), none] ∧ H' = H ∧ (1 ≤ x.length ∧ x.length ≤ 8) ∧ inV (.str x) (words.map V.str) = false, ?_, ?_⟩
    · (repeat (first | (refine ⟨_, rfl, ?_⟩) | (refine ⟨_, _, rfl, rfl, ?_⟩) | (refine ⟨_, _, _, _, rfl, rfl, SqL.of (by assumption), (by rfl), ?_⟩) | (refine ⟨_, _, _, _, rfl, rfl, (by assumption), (by rfl), ?_⟩) | (refine ⟨_, _, _, _, rfl, rfl, SqL.of (by assumption), (by assumption), ?_⟩) | (refine ⟨_, _, rfl, .inl (SqL.of (by assumption)), ?_⟩) | (refine ⟨_, _, _, _, _, rfl, (by assumption), (by assumption), (by assumption), (by rfl), ?_⟩) | (refine ⟨_, _, _, _, rfl, (by assumption), (by assumption), (by assumption), (Nat.le_of_ble_eq_true rfl), ?_⟩) | (refine And.intro (by first | assumption | rfl | (show (0:Int) < _; omega) | (show CDiv _ _; exact ⟨by omega, by omega⟩) | (show CMul _ _; first | exact .inl ⟨by omega, by omega⟩ | exact .inr ⟨by omega, by omega⟩) | (show CPow _ _; exact ⟨by omega, by omega, by omega⟩) | (show (_ : Nat) ≤ sizeLine; exact Nat.le_of_ble_eq_true rfl)) ?_) ))
      refine ⟨_, "str", true, rfl, .base (.str _), by decide, ?_⟩
      (repeat (first | (refine ⟨_, rfl, ?_⟩) | (refine ⟨_, _, rfl, rfl, ?_⟩) | (refine ⟨_, _, _, _, rfl, rfl, SqL.of (by assumption), (by rfl), ?_⟩) | (refine ⟨_, _, _, _, rfl, rfl, (by assumption), (by rfl), ?_⟩) | (refine ⟨_, _, _, _, rfl, rfl, SqL.of (by assumption), (by assumption), ?_⟩) | (refine ⟨_, _, rfl, .inl (SqL.of (by assumption)), ?_⟩) | (refine ⟨_, _, _, _, _, rfl, (by assumption), (by assumption), (by assumption), (by rfl), ?_⟩) | (refine ⟨_, _, _, _, rfl, (by assumption), (by assumption), (by assumption), (Nat.le_of_ble_eq_true rfl), ?_⟩) | (refine And.intro (by first | assumption | rfl | (show (0:Int) < _; omega) | (show CDiv _ _; exact ⟨by omega, by omega⟩) | (show CMul _ _; first | exact .inl ⟨by omega, by omega⟩ | exact .inr ⟨by omega, by omega⟩) | (show CPow _ _; exact ⟨by omega, by omega, by omega⟩) | (show (_ : Nat) ≤ sizeLine; exact Nat.le_of_ble_eq_true rfl)) ?_) ))
      have no : ∀ {H'}, (¬ (1 ≤ x.length ∧ x.length ≤ 8)) ∨ inV (.str x) (words.map V.str) = true → Kp [] H H' → Q (.bl false) H' := fun {H'} h kp => by
        have e : nameB x = false := by
          rcases h with h | h <;> simp [nameB, h]
        exact e ▸ k H' kp
      refine ite2 (fun g1 => ?_) (fun g1 => ?_)
      · (repeat (first | (refine ⟨_, rfl, ?_⟩) | (refine ⟨_, _, rfl, rfl, ?_⟩) | (refine ⟨_, _, _, _, rfl, rfl, SqL.of (by assumption), (by rfl), ?_⟩) | (refine ⟨_, _, _, _, rfl, rfl, (by assumption), (by rfl), ?_⟩) | (refine ⟨_, _, _, _, rfl, rfl, SqL.of (by assumption), (by assumption), ?_⟩) | (refine ⟨_, _, rfl, .inl (SqL.of (by assumption)), ?_⟩) | (refine ⟨_, _, _, _, _, rfl, (by assumption), (by assumption), (by assumption), (by rfl), ?_⟩) | (refine ⟨_, _, _, _, rfl, (by assumption), (by assumption), (by assumption), (Nat.le_of_ble_eq_true rfl), ?_⟩) | (refine And.intro (by first | assumption | rfl | (show (0:Int) < _; omega) | (show CDiv _ _; exact ⟨by omega, by omega⟩) | (show CMul _ _; first | exact .inl ⟨by omega, by omega⟩ | exact .inr ⟨by omega, by omega⟩) | (show CPow _ _; exact ⟨by omega, by omega, by omega⟩) | (show (_ : Nat) ≤ sizeLine; exact Nat.le_of_ble_eq_true rfl)) ?_) ))
        refine ite2 (fun g2 => no (.inl ?_) (Kp.refl _ _)) (fun g2 => ?_)
        · simp at g1 g2; omega
        · (repeat (first | (refine ⟨_, rfl, ?_⟩) | (refine ⟨_, _, rfl, rfl, ?_⟩) | (refine ⟨_, _, _, _, rfl, rfl, SqL.of (by assumption), (by rfl), ?_⟩) | (refine ⟨_, _, _, _, rfl, rfl, (by assumption), (by rfl), ?_⟩) | (refine ⟨_, _, _, _, rfl, rfl, SqL.of (by assumption), (by assumption), ?_⟩) | (refine ⟨_, _, rfl, .inl (SqL.of (by assumption)), ?_⟩) | (refine ⟨_, _, _, _, _, rfl, (by assumption), (by assumption), (by assumption), (by rfl), ?_⟩) | (refine ⟨_, _, _, _, rfl, (by assumption), (by assumption), (by assumption), (Nat.le_of_ble_eq_true rfl), ?_⟩) | (refine And.intro (by first | assumption | rfl | (show (0:Int) < _; omega) | (show CDiv _ _; exact ⟨by omega, by omega⟩) | (show CMul _ _; first | exact .inl ⟨by omega, by omega⟩ | exact .inr ⟨by omega, by omega⟩) | (show CPow _ _; exact ⟨by omega, by omega, by omega⟩) | (show (_ : Nat) ≤ sizeLine; exact Nat.le_of_ble_eq_true rfl)) ?_) ))
          refine ⟨_, _, rfl, .inr (T.tW _), rfl, by decide +kernel, ?_⟩
          (repeat (first | (refine ⟨_, rfl, ?_⟩) | (refine ⟨_, _, rfl, rfl, ?_⟩) | (refine ⟨_, _, _, _, rfl, rfl, SqL.of (by assumption), (by rfl), ?_⟩) | (refine ⟨_, _, _, _, rfl, rfl, (by assumption), (by rfl), ?_⟩) | (refine ⟨_, _, _, _, rfl, rfl, SqL.of (by assumption), (by assumption), ?_⟩) | (refine ⟨_, _, rfl, .inl (SqL.of (by assumption)), ?_⟩) | (refine ⟨_, _, _, _, _, rfl, (by assumption), (by assumption), (by assumption), (by rfl), ?_⟩) | (refine ⟨_, _, _, _, rfl, (by assumption), (by assumption), (by assumption), (Nat.le_of_ble_eq_true rfl), ?_⟩) | (refine And.intro (by first | assumption | rfl | (show (0:Int) < _; omega) | (show CDiv _ _; exact ⟨by omega, by omega⟩) | (show CMul _ _; first | exact .inl ⟨by omega, by omega⟩ | exact .inr ⟨by omega, by omega⟩) | (show CPow _ _; exact ⟨by omega, by omega, by omega⟩) | (show (_ : Nat) ≤ sizeLine; exact Nat.le_of_ble_eq_true rfl)) ?_) ))
          refine ite2 (fun g3 => no (.inr g3) (Kp.refl _ _)) (fun g3 => ⟨rfl, rfl, ?_, by simpa using g3⟩)
          simp at g1 g2; omega
      · exact ⟨_, rfl, no (.inl (by simp at g1; omega)) (Kp.refl _ _)⟩
    · rintro _ _ ⟨rfl, rfl, l8, nw⟩
      (repeat (first | (refine ⟨_, rfl, ?_⟩) | (refine ⟨_, _, rfl, rfl, ?_⟩) | (refine ⟨_, _, _, _, rfl, rfl, SqL.of (by assumption), (by rfl), ?_⟩) | (refine ⟨_, _, _, _, rfl, rfl, (by assumption), (by rfl), ?_⟩) | (refine ⟨_, _, _, _, rfl, rfl, SqL.of (by assumption), (by assumption), ?_⟩) | (refine ⟨_, _, rfl, .inl (SqL.of (by assumption)), ?_⟩) | (refine ⟨_, _, _, _, _, rfl, (by assumption), (by assumption), (by assumption), (by rfl), ?_⟩) | (refine ⟨_, _, _, _, rfl, (by assumption), (by assumption), (by assumption), (Nat.le_of_ble_eq_true rfl), ?_⟩) | (refine And.intro (by first | assumption | rfl | (show (0:Int) < _; omega) | (show CDiv _ _; exact ⟨by omega, by omega⟩) | (show CMul _ _; first | exact .inl ⟨by omega, by omega⟩ | exact .inr ⟨by omega, by omega⟩) | (show CPow _ _; exact ⟨by omega, by omega, by omega⟩) | (show (_ : Nat) ≤ sizeLine; exact Nat.le_of_ble_eq_true rfl)) ?_) ))
      obtain ⟨c, cs, hc⟩ : ∃ c cs, x.cps.toList = c :: cs := by
        cases h : x.cps.toList with
        | nil => have : x.length = x.cps.toList.length := rfl; rw [h] at this; simp at this; omega
        | cons c cs => exact ⟨c, cs, rfl⟩
      refine ⟨_, _, c, rfl, rfl, hz, by rw [hc]; exact atI_nat (j := 0) (xs := c :: cs) rfl, ?_⟩
      (repeat (first | (refine ⟨_, rfl, ?_⟩) | (refine ⟨_, _, rfl, rfl, ?_⟩) | (refine ⟨_, _, _, _, rfl, rfl, SqL.of (by assumption), (by rfl), ?_⟩) | (refine ⟨_, _, _, _, rfl, rfl, (by assumption), (by rfl), ?_⟩) | (refine ⟨_, _, _, _, rfl, rfl, SqL.of (by assumption), (by assumption), ?_⟩) | (refine ⟨_, _, rfl, .inl (SqL.of (by assumption)), ?_⟩) | (refine ⟨_, _, _, _, _, rfl, (by assumption), (by assumption), (by assumption), (by rfl), ?_⟩) | (refine ⟨_, _, _, _, rfl, (by assumption), (by assumption), (by assumption), (Nat.le_of_ble_eq_true rfl), ?_⟩) | (refine And.intro (by first | assumption | rfl | (show (0:Int) < _; omega) | (show CDiv _ _; exact ⟨by omega, by omega⟩) | (show CMul _ _; first | exact .inl ⟨by omega, by omega⟩ | exact .inr ⟨by omega, by omega⟩) | (show CPow _ _; exact ⟨by omega, by omega, by omega⟩) | (show (_ : Nat) ≤ sizeLine; exact Nat.le_of_ble_eq_true rfl)) ?_) ))
      have hn : ∀ {b : Bool}, (inS ⟨#[c]⟩ first && x.cps.toList.all fun c => inS ⟨#[c]⟩ later) = b → nameB x = b := fun {b} e => by
        rw [← e]
        simp only [nameB, hc, nw]
        simp [l8]
      refine ite2 (fun g => ?_) (fun g => ?_)
      · (repeat (first | (refine ⟨_, rfl, ?_⟩) | (refine ⟨_, _, rfl, rfl, ?_⟩) | (refine ⟨_, _, _, _, rfl, rfl, SqL.of (by assumption), (by rfl), ?_⟩) | (refine ⟨_, _, _, _, rfl, rfl, (by assumption), (by rfl), ?_⟩) | (refine ⟨_, _, _, _, rfl, rfl, SqL.of (by assumption), (by assumption), ?_⟩) | (refine ⟨_, _, rfl, .inl (SqL.of (by assumption)), ?_⟩) | (refine ⟨_, _, _, _, _, rfl, (by assumption), (by assumption), (by assumption), (by rfl), ?_⟩) | (refine ⟨_, _, _, _, rfl, (by assumption), (by assumption), (by assumption), (Nat.le_of_ble_eq_true rfl), ?_⟩) | (refine And.intro (by first | assumption | rfl | (show (0:Int) < _; omega) | (show CDiv _ _; exact ⟨by omega, by omega⟩) | (show CMul _ _; first | exact .inl ⟨by omega, by omega⟩ | exact .inr ⟨by omega, by omega⟩) | (show CPow _ _; exact ⟨by omega, by omega, by omega⟩) | (show (_ : Nat) ≤ sizeLine; exact Nat.le_of_ble_eq_true rfl)) ?_) ))
        intro D hD
        refine lc_map (f := fun i => .bl (inS ⟨#[x.cps.toList.getD i 0]⟩ later)) walk_str (Nat.le_trans (show x.cps.size ≤ 1000 from hl) (by decide)) hD (fun _ _ => trivial) ?_ ?_
        · rintro i _ H1 _ hi h0 k1 ⟨rfl, c', hc', rfl⟩
          (repeat (first | (refine ⟨_, rfl, ?_⟩) | (refine ⟨_, _, rfl, rfl, ?_⟩) | (refine ⟨_, _, _, _, rfl, rfl, SqL.of (by assumption), (by rfl), ?_⟩) | (refine ⟨_, _, _, _, rfl, rfl, (by assumption), (by rfl), ?_⟩) | (refine ⟨_, _, _, _, rfl, rfl, SqL.of (by assumption), (by assumption), ?_⟩) | (refine ⟨_, _, rfl, .inl (SqL.of (by assumption)), ?_⟩) | (refine ⟨_, _, _, _, _, rfl, (by assumption), (by assumption), (by assumption), (by rfl), ?_⟩) | (refine ⟨_, _, _, _, rfl, (by assumption), (by assumption), (by assumption), (Nat.le_of_ble_eq_true rfl), ?_⟩) | (refine And.intro (by first | assumption | rfl | (show (0:Int) < _; omega) | (show CDiv _ _; exact ⟨by omega, by omega⟩) | (show CMul _ _; first | exact .inl ⟨by omega, by omega⟩ | exact .inr ⟨by omega, by omega⟩) | (show CPow _ _; exact ⟨by omega, by omega, by omega⟩) | (show (_ : Nat) ≤ sizeLine; exact Nat.le_of_ble_eq_true rfl)) ?_) ))
          refine map_to hD h0 k1 (Kp.refl _ _) (Nat.lt_of_lt_of_le hi (Nat.le_trans (show x.cps.size ≤ 1000 from hl) (by decide))) ?_
          have : x.cps.toList.getD i 0 = c' := by simp [List.getD, hc']
          rw [this]; rfl
        · intro H1 h1 k1
          have e : (List.range x.cps.size).map (fun i => V.bl (inS ⟨#[x.cps.toList.getD i 0]⟩ later)) = (x.cps.toList.map fun c => inS ⟨#[c]⟩ later).map V.bl := by
            rw [List.map_map]; exact range_map x.cps.toList 0 (fun c => V.bl (inS ⟨#[c]⟩ later))
          rw [e] at h1
          refine ⟨_, _, rfl, SqL.of h1, ?_⟩
          have g' : inS ⟨#[c]⟩ first = true := g
          have e2 := hn (b := (x.cps.toList.map fun c => inS ⟨#[c]⟩ later).all id) (by rw [g', List.all_map]; rfl)
          have q := k _ k1
          rw [e2] at q
          exact q
      · refine (hn (b := false) ?_) ▸ k _ (Kp.refl _ _)
        have : inS ⟨#[c]⟩ first = false := by simpa [inS] using g
        simp [this]
def spUnlike (K : PySem.W.Frag) : Sp := fun vs H Q _ => ∃ (a : Addr) (xs : List Str), vs = [.ref a] ∧ SqA K H a (xs.map V.str) ∧ xs.length ≤ 1000 ∧ ∀ H', Kp [] H H' → Q (.bl (decide xs.Nodup)) H'
theorem inV_str (x : Str) (xs : List Str) : inV (.str x) (xs.map V.str) = decide (x ∈ xs) := by
  induction xs with
  | nil => rfl
  | cons y ys ih =>
    have h1 : inV (.str x) ((y :: ys).map V.str) = (eqV (.str y) (.str x) || inV (.str x) (ys.map V.str)) := rfl
    have h2 : eqV (.str y) (.str x) = decide (y = x) := by
      show (y == x) = _
      exact beq_dec y x
    rw [h1, h2, ih]
    by_cases h : x = y
    · subst h; simp
    · have h' : y ≠ x := fun z => h z.symm
      simp [h, h']
theorem flat_strs (xs : List Str) : (xs.map V.str).all flatV = true := by
  rw [List.all_map]; exact List.all_eq_true.mpr fun _ _ => rfl
theorem all_nodup (xs : List Str) : ((List.range xs.length).map fun i => !inV (.str (xs.getD i "")) ((xs.take i).map V.str)).all id = decide xs.Nodup := by
  rw [Bool.eq_iff_iff]
  simp only [List.all_map, List.all_eq_true, List.mem_range, decide_eq_true_iff, inV_str, Function.comp, id]
  have nd : xs.Nodup ↔ ∀ (i j : Nat) (hi : i < xs.length) (hj : j < xs.length), i < j → xs[i] ≠ xs[j] := List.pairwise_iff_getElem
  rw [nd]
  constructor
  · intro h i j hi hj hij e
    have := h j hj
    simp only [List.getD, List.getElem?_eq_getElem hj, Option.getD_some, Bool.not_eq_true', decide_eq_false_iff_not] at this
    exact this (e ▸ List.mem_take_iff_getElem.mpr ⟨i, by omega, rfl⟩)
  · intro h j hj
    simp only [List.getD, List.getElem?_eq_getElem hj, Option.getD_some, Bool.not_eq_true', decide_eq_false_iff_not]
    intro hm
    obtain ⟨i, hi, e⟩ := List.mem_take_iff_getElem.mp hm
    exact h i j (by omega) hj (by omega) e
theorem cUnlike (D : Dfn K mg "is_unlike" s_is_unlike) (T : Txt K mg aW aP C) : Cal P w K mg base 1 "is_unlike" (spUnlike K) := by
  refine cal D sc_is_unlike (fun _ _ _ _ _ _ us hl => match us, hl with | [_], _ => rfl) (fun vs H Q E h => ?_) (fun f cdv A outer s H vs Q E hr h => ?_)
  · obtain ⟨a, xs, rfl, _⟩ := h; rfl
  · obtain ⟨a, xs, rfl, ha, hl, k⟩ := h
    refine ⟨_, (pss_one (ps_ret (pe_callB (cr_all rfl) (by rfl) T.n_all (by decide +kernel) (pa_cons (pe_lc (own := [("at", 1)]) (by rfl) sc_is_unlike.nd (pi_range1 (by rfl) T.n_range (pa_cons (pe_callB call_len_seq (by rfl) T.n_len (by decide +kernel) (pa_cons (pv 0) pa_nil)) pa_nil)) (blkOk_by (own := [("at", 1)]) (N := N_is_unlike) (sc := defScope s_is_unlike) (by decide +kernel)) (fun _ _ _ _ _ => pg_name (i := 1) sc_is_unlike.nd rfl (Or.inl rfl)) (fun _ _ _ _ _ => pts_nil) (fun _ _ _ _ _ => pe_cmpR (op_notIn_seqK (K := K)) (pe_ix (ix_any (K := K)) (pv 0) (pv 1) (fun _ _ => rfl)) (pe_slice (sl_any (K := K)) (pv 0) po_none (po_some (pv 1))) (by rfl))) pa_nil)))), ?_⟩
    show (_ : TS) _ [some (V.ref a), none] H
    (repeat (first | (refine ⟨_, rfl, ?_⟩) | (refine ⟨_, _, rfl, rfl, ?_⟩) | (refine ⟨_, _, _, _, rfl, rfl, SqL.of (by assumption), (by rfl), ?_⟩) | (refine ⟨_, _, _, _, rfl, rfl, (by assumption), (by rfl), ?_⟩) | (refine ⟨_, _, _, _, rfl, rfl, SqL.of (by assumption), (by assumption), ?_⟩) | (refine ⟨_, _, rfl, .inl (SqL.of (by assumption)), ?_⟩) | (refine ⟨_, _, _, _, _, rfl, (by assumption), (by assumption), (by assumption), (by rfl), ?_⟩) | (refine ⟨_, _, _, _, rfl, (by assumption), (by assumption), (by assumption), (Nat.le_of_ble_eq_true rfl), ?_⟩) | (refine And.intro (by first | assumption | rfl | (show (0:Int) < _; omega) | (show CDiv _ _; exact ⟨by omega, by omega⟩) | (show CMul _ _; first | exact .inl ⟨by omega, by omega⟩ | exact .inr ⟨by omega, by omega⟩) | (show CPow _ _; exact ⟨by omega, by omega, by omega⟩) | (show (_ : Nat) ≤ sizeLine; exact Nat.le_of_ble_eq_true rfl)) ?_) ))
    refine ⟨_, _, rfl, ha, ?_⟩
    (repeat (first | (refine ⟨_, rfl, ?_⟩) | (refine ⟨_, _, rfl, rfl, ?_⟩) | (refine ⟨_, _, _, _, rfl, rfl, SqL.of (by assumption), (by rfl), ?_⟩) | (refine ⟨_, _, _, _, rfl, rfl, (by assumption), (by rfl), ?_⟩) | (refine ⟨_, _, _, _, rfl, rfl, SqL.of (by assumption), (by assumption), ?_⟩) | (refine ⟨_, _, rfl, .inl (SqL.of (by assumption)), ?_⟩) | (refine ⟨_, _, _, _, _, rfl, (by assumption), (by assumption), (by assumption), (by rfl), ?_⟩) | (refine ⟨_, _, _, _, rfl, (by assumption), (by assumption), (by assumption), (Nat.le_of_ble_eq_true rfl), ?_⟩) | (refine And.intro (by first | assumption | rfl | (show (0:Int) < _; omega) | (show CDiv _ _; exact ⟨by omega, by omega⟩) | (show CMul _ _; first | exact .inl ⟨by omega, by omega⟩ | exact .inr ⟨by omega, by omega⟩) | (show CPow _ _; exact ⟨by omega, by omega, by omega⟩) | (show (_ : Nat) ≤ sizeLine; exact Nat.le_of_ble_eq_true rfl)) ?_) ))
    have el : (xs.map V.str).length = xs.length := List.length_map _
    refine ⟨by omega, by rw [el]; omega, ?_⟩
    intro D hD
    have en : ((xs.map V.str).length : Int).toNat = xs.length := by rw [el]; rfl
    rw [en]
    refine lc_map (f := fun i => .bl (!inV (.str (xs.getD i "")) ((xs.take i).map V.str))) walk_range (Nat.le_trans hl (by decide)) hD (fun _ _ => trivial) ?_ ?_
    · rintro i _ H1 H2 hi h0 k1 ⟨rfl, rfl⟩
      have ha1 := ha.same k1
      have gi : (xs.map V.str)[i]? = some (.str (xs.getD i "")) := by simp [List.getD, hi]
      (repeat (first | (refine ⟨_, rfl, ?_⟩) | (refine ⟨_, _, rfl, rfl, ?_⟩) | (refine ⟨_, _, _, _, rfl, rfl, SqL.of (by assumption), (by rfl), ?_⟩) | (refine ⟨_, _, _, _, rfl, rfl, (by assumption), (by rfl), ?_⟩) | (refine ⟨_, _, _, _, rfl, rfl, SqL.of (by assumption), (by assumption), ?_⟩) | (refine ⟨_, _, rfl, .inl (SqL.of (by assumption)), ?_⟩) | (refine ⟨_, _, _, _, _, rfl, (by assumption), (by assumption), (by assumption), (by rfl), ?_⟩) | (refine ⟨_, _, _, _, rfl, (by assumption), (by assumption), (by assumption), (Nat.le_of_ble_eq_true rfl), ?_⟩) | (refine And.intro (by first | assumption | rfl | (show (0:Int) < _; omega) | (show CDiv _ _; exact ⟨by omega, by omega⟩) | (show CMul _ _; first | exact .inl ⟨by omega, by omega⟩ | exact .inr ⟨by omega, by omega⟩) | (show CPow _ _; exact ⟨by omega, by omega, by omega⟩) | (show (_ : Nat) ≤ sizeLine; exact Nat.le_of_ble_eq_true rfl)) ?_) ))
      refine ⟨a, _, _, _, rfl, rfl, ha1, by rw [Int.zero_add]; exact atI_nat gi, ?_⟩
      (repeat (first | (refine ⟨_, rfl, ?_⟩) | (refine ⟨_, _, rfl, rfl, ?_⟩) | (refine ⟨_, _, _, _, rfl, rfl, SqL.of (by assumption), (by rfl), ?_⟩) | (refine ⟨_, _, _, _, rfl, rfl, (by assumption), (by rfl), ?_⟩) | (refine ⟨_, _, _, _, rfl, rfl, SqL.of (by assumption), (by assumption), ?_⟩) | (refine ⟨_, _, rfl, .inl (SqL.of (by assumption)), ?_⟩) | (refine ⟨_, _, _, _, _, rfl, (by assumption), (by assumption), (by assumption), (by rfl), ?_⟩) | (refine ⟨_, _, _, _, rfl, (by assumption), (by assumption), (by assumption), (Nat.le_of_ble_eq_true rfl), ?_⟩) | (refine And.intro (by first | assumption | rfl | (show (0:Int) < _; omega) | (show CDiv _ _; exact ⟨by omega, by omega⟩) | (show CMul _ _; first | exact .inl ⟨by omega, by omega⟩ | exact .inr ⟨by omega, by omega⟩) | (show CPow _ _; exact ⟨by omega, by omega, by omega⟩) | (show (_ : Nat) ≤ sizeLine; exact Nat.le_of_ble_eq_true rfl)) ?_) ))
      have c1 : cutV (xs.map V.str) none (some (0 + (i : Int))) = (xs.take i).map V.str := by
        rw [Int.zero_add]
        unfold cutV
        rw [HT.sIx_nat, HT.sIx_none, List.drop_zero, Nat.sub_zero, el, Nat.min_eq_left (by omega), List.map_take]
      refine ⟨a, _, rfl, ha1, ?_, ?_⟩
      · rw [Int.zero_add, HT.sIx_nat, el]; omega
      · intro p o hp ho
        rw [c1] at ho
        have k2 : Kp [] H2 (upd H2 p o) := Kp.new hp
        have hs : SqL K (upd H2 p o) p ((xs.take i).map V.str) ∨ SqT K (upd H2 p o) p ((xs.take i).map V.str) := by
          rcases ho with rfl | rfl
          · exact .inl (SqL.of upd_same)
          · exact .inr (SqT.of upd_same)
        refine ⟨p, _, rfl, hs, rfl, flat_strs _, ?_⟩
        exact map_to hD h0 k1 k2 (Nat.lt_of_lt_of_le hi (Nat.le_trans hl (by decide))) rfl
    · intro H1 h1 k1
      have e : (List.range xs.length).map (fun i => V.bl (!inV (.str (xs.getD i "")) ((xs.take i).map V.str))) = ((List.range xs.length).map fun i => !inV (.str (xs.getD i "")) ((xs.take i).map V.str)).map V.bl := by rw [List.map_map]; rfl
      rw [e] at h1
      refine ⟨_, _, rfl, SqL.of h1, ?_⟩
      have q := k _ k1
      rw [← all_nodup xs] at q
      exact q
end
end K14

namespace K14
open PySem L2 GB G1 Tb
def LieOk (cols : List Str) : Lie → Prop
  | .dealt r cs => nameB r = true ∧ (1 ≤ cs.length ∧ cs.length ≤ 3) ∧ cs.Nodup ∧ ∀ x ∈ cs, x ∈ cols
  | _ => True
theorem name_len {x : Str} (h : nameB x = true) : 1 ≤ x.length ∧ x.length ≤ 8 := by
  simp only [nameB, Bool.and_eq_true, decide_eq_true_eq] at h
  exact h.1.1.1
theorem tyT {K : PySem.W.Frag} {H : Hp} {a : Addr} {xs : List V} (h : SqT K H a xs) : TyX K H (.ref a) (.type "tuple") := by
  rcases h with (h | ⟨o, h⟩) | ⟨o, its, n, h1, h2, _⟩
  · exact .base (.tup h)
  · exact .fTuple h
  · exact .kTuple h1 h2
theorem lieTup {K : PySem.W.Frag} {H : Hp} {v : V} {l : Lie} (h : LieAt K H v l) : ∃ a xs, v = .ref a ∧ SqT K H a xs := by
  cases l with
  | dealt r cs => obtain ⟨a, b, e, h1, h2⟩ := h; exact ⟨_, _, e, h1⟩
  | _ => obtain ⟨a, e, h1⟩ := h; exact ⟨_, _, e, h1⟩
def spIsLie (K : PySem.W.Frag) : Sp := fun vs H Q _ => ∃ (c : Addr) (v : V) (cols : List Str) (l : Lie), vs = [.ref c, v] ∧ StrL H c cols ∧ LieAt K H v l ∧ l.sok ∧ LieOk cols l ∧ ∀ H', Kp [] H H' → Q (.bl true) H'
section
variable {P : Program} {w : World} {K : PySem.W.Frag} {mg : Str → Option Value} {base : Heap} {aW aP C : Addr}
theorem cIsLie (D : Dfn K mg "is_lie" s_is_lie) (T : Txt K mg aW aP C) (cName : Cal P w K mg base 1 "is_name" spName) (cUnlike : Cal P w K mg base 1 "is_unlike" (spUnlike K)) : Cal P w K mg base 2 "is_lie" (spIsLie K) := by
  refine cal D sc_is_lie (fun _ _ _ _ _ _ us hl => match us, hl with | [_, _], _ => rfl) (fun vs H Q E h => ?_) (fun f cdv A outer s H vs Q E hr h => ?_)
  · obtain ⟨x, v, cols, l, rfl, _⟩ := h; rfl
  · obtain ⟨c, v, cols, l, rfl, hc, hl, so, ok, k⟩ := h
    refine ⟨_, (pss_cons (ps_if (pt_not (pt_val (pe_callB (call_isB "tuple") (by rfl) T.n_isinstance (by decide +kernel) (pa_cons (pv 1) (pa_cons (pe_bltn (v := .ty "tuple") (u := .type "tuple") rfl T.n_tuple (by decide +kernel) rfl) pa_nil))))) (pss_one (ps_ret pe_bl)) pss_nil)
      (pss_cons (ps_if (pt_cmpR (op_inTD hr) (pv 1) (pe_gc rfl T.g_PLAIN_LIES) (by rfl)) (pss_one (ps_ret pe_bl)) pss_nil)
      (pss_cut (ps_if (PW.pt (pw_or (pt_cmpR op_ne (pe_callB call_len_seq (by rfl) T.n_len (by decide +kernel) (pa_cons (pv 1) pa_nil)) pe_int (nomark _)) (pw_or (pt_cmpR op_ne (pe_ix ix_tup (pv 1) pe_int (fun _ _ => rfl)) pe_str (nomark _)) (pw_or (pt_not (pt_val (pe_c cName hr (by decide) (by rfl) (pa_cons (pe_ix ix_tup (pv 1) pe_int (fun _ _ => rfl)) pa_nil)))) (pw_or1 (pt_not (pt_val (pe_callB (call_isB "tuple") (by rfl) T.n_isinstance (by decide +kernel) (pa_cons (pe_ix ix_tup (pv 1) pe_int (fun _ _ => rfl)) (pa_cons (pe_bltn (v := .ty "tuple") (u := .type "tuple") rfl T.n_tuple (by decide +kernel) rfl) pa_nil)))))))))) (pss_one (ps_ret pe_bl)) pss_nil)
      (pss_cut (ps_if (PW.pt (pw_or (pt_not (pt_chain op_le op_le pe_int (pe_callB call_len_seq (by rfl) T.n_len (by decide +kernel) (pa_cons (pe_ix ix_tup (pv 1) pe_int (fun _ _ => rfl)) pa_nil)) (pe_gc rfl T.g_MOST_RULED))) (pw_or1 (pt_not (pt_val (pe_c cUnlike hr (by decide) (by rfl) (pa_cons (pe_ix ix_tup (pv 1) pe_int (fun _ _ => rfl)) pa_nil))))))) (pss_one (ps_ret pe_bl)) pss_nil)
      (pss_one (ps_ret (pe_callB (cr_all rfl) (by rfl) T.n_all (by decide +kernel) (pa_cons (pe_lc (own := [("column", 2)]) (by rfl) sc_is_lie.nd (pi_tup (pe_ix ix_tup (pv 1) pe_int (fun _ _ => rfl))) (blkOk_by (own := [("column", 2)]) (N := N_is_lie) (sc := defScope s_is_lie) (by decide +kernel)) (fun _ _ _ _ _ => pg_name (i := 2) sc_is_lie.nd rfl (Or.inl rfl)) (fun _ _ _ _ _ => pts_nil) (fun _ _ _ _ _ => pe_cmpR (op_in_seqK (K := K)) (pv 2) (pv 0) (by rfl))) pa_nil)))))))), ?_⟩
    show (_ : TS) _ [some (V.ref c), some v, none] H
    obtain ⟨a, ys, rfl, hs⟩ := lieTup hl
    (repeat (first | (refine ⟨_, rfl, ?_⟩) | (refine ⟨_, _, rfl, rfl, ?_⟩) | (refine ⟨_, _, _, _, rfl, rfl, SqL.of (by assumption), (by rfl), ?_⟩) | (refine ⟨_, _, _, _, rfl, rfl, (by assumption), (by rfl), ?_⟩) | (refine ⟨_, _, _, _, rfl, rfl, SqL.of (by assumption), (by assumption), ?_⟩) | (refine ⟨_, _, rfl, .inl (SqL.of (by assumption)), ?_⟩) | (refine ⟨_, _, _, _, _, rfl, (by assumption), (by assumption), (by assumption), (by rfl), ?_⟩) | (refine ⟨_, _, _, _, rfl, (by assumption), (by assumption), (by assumption), (Nat.le_of_ble_eq_true rfl), ?_⟩) | (refine And.intro (by first | assumption | rfl | (show (0:Int) < _; omega) | (show CDiv _ _; exact ⟨by omega, by omega⟩) | (show CMul _ _; first | exact .inl ⟨by omega, by omega⟩ | exact .inr ⟨by omega, by omega⟩) | (show CPow _ _; exact ⟨by omega, by omega, by omega⟩) | (show (_ : Nat) ≤ sizeLine; exact Nat.le_of_ble_eq_true rfl)) ?_) ))
    refine ⟨_, "tuple", true, rfl, tyT hs, by decide, ?_⟩
    (repeat (first | (refine ⟨_, rfl, ?_⟩) | (refine ⟨_, _, rfl, rfl, ?_⟩) | (refine ⟨_, _, _, _, rfl, rfl, SqL.of (by assumption), (by rfl), ?_⟩) | (refine ⟨_, _, _, _, rfl, rfl, (by assumption), (by rfl), ?_⟩) | (refine ⟨_, _, _, _, rfl, rfl, SqL.of (by assumption), (by assumption), ?_⟩) | (refine ⟨_, _, rfl, .inl (SqL.of (by assumption)), ?_⟩) | (refine ⟨_, _, _, _, _, rfl, (by assumption), (by assumption), (by assumption), (by rfl), ?_⟩) | (refine ⟨_, _, _, _, rfl, (by assumption), (by assumption), (by assumption), (Nat.le_of_ble_eq_true rfl), ?_⟩) | (refine And.intro (by first | assumption | rfl | (show (0:Int) < _; omega) | (show CDiv _ _; exact ⟨by omega, by omega⟩) | (show CMul _ _; first | exact .inl ⟨by omega, by omega⟩ | exact .inr ⟨by omega, by omega⟩) | (show CPow _ _; exact ⟨by omega, by omega, by omega⟩) | (show (_ : Nat) ≤ sizeLine; exact Nat.le_of_ble_eq_true rfl)) ?_) ))
    obtain ⟨p1, p2, p3, hp⟩ := T.tP
    have dP : ∀ H, Dp K H (.ref aP) (.tuple [Lie.copied.data, Lie.anyhow.data, Lie.zero.data]) := fun H => by
      obtain ⟨h1, h2, h3, h4⟩ := hp H
      exact .tup h1 (.cons (.tup h2 (.cons (.str _) .nil)) (.cons (.tup h3 (.cons (.str _) .nil)) (.cons (.tup h4 (.cons (.str _) .nil)) .nil)))
    refine ⟨_, _, hl.dp, dP _, l.shaped so, by decide +kernel, ?_⟩
    (repeat (first | (refine ⟨_, rfl, ?_⟩) | (refine ⟨_, _, rfl, rfl, ?_⟩) | (refine ⟨_, _, _, _, rfl, rfl, SqL.of (by assumption), (by rfl), ?_⟩) | (refine ⟨_, _, _, _, rfl, rfl, (by assumption), (by rfl), ?_⟩) | (refine ⟨_, _, _, _, rfl, rfl, SqL.of (by assumption), (by assumption), ?_⟩) | (refine ⟨_, _, rfl, .inl (SqL.of (by assumption)), ?_⟩) | (refine ⟨_, _, _, _, _, rfl, (by assumption), (by assumption), (by assumption), (by rfl), ?_⟩) | (refine ⟨_, _, _, _, rfl, (by assumption), (by assumption), (by assumption), (Nat.le_of_ble_eq_true rfl), ?_⟩) | (refine And.intro (by first | assumption | rfl | (show (0:Int) < _; omega) | (show CDiv _ _; exact ⟨by omega, by omega⟩) | (show CMul _ _; first | exact .inl ⟨by omega, by omega⟩ | exact .inr ⟨by omega, by omega⟩) | (show CPow _ _; exact ⟨by omega, by omega, by omega⟩) | (show (_ : Nat) ≤ sizeLine; exact Nat.le_of_ble_eq_true rfl)) ?_) ))
    refine ite2 (fun g => k _ (Kp.refl _ _)) (fun g => ?_)
    have eq : ∃ r cs, l = .dealt r cs := by
      cases l with
      | dealt r cs => exact ⟨r, cs, rfl⟩
      | _ => exact absurd (by decide +kernel) g
    obtain ⟨r, cs, rfl⟩ := eq
    obtain ⟨a', b, e', h1, h2⟩ := hl
    cases e'
    obtain ⟨nr, ln, nd, sub⟩ := ok
    have z0 : atI [V.str "dealt", V.str r, V.ref b] 0 = some (.str "dealt") := rfl
    clear g hs so
    refine ⟨fun σ' H' => σ' = [some (V.ref c), some (V.ref a), none] ∧ Kp [] H H', ?_, ?_⟩
    · (repeat (first | (refine ⟨_, rfl, ?_⟩) | (refine ⟨_, _, rfl, rfl, ?_⟩) | (refine ⟨_, _, _, _, rfl, rfl, SqL.of (by assumption), (by rfl), ?_⟩) | (refine ⟨_, _, _, _, rfl, rfl, (by assumption), (by rfl), ?_⟩) | (refine ⟨_, _, _, _, rfl, rfl, SqL.of (by assumption), (by assumption), ?_⟩) | (refine ⟨_, _, rfl, .inl (SqL.of (by assumption)), ?_⟩) | (refine ⟨_, _, _, _, _, rfl, (by assumption), (by assumption), (by assumption), (by rfl), ?_⟩) | (refine ⟨_, _, _, _, rfl, (by assumption), (by assumption), (by assumption), (Nat.le_of_ble_eq_true rfl), ?_⟩) | (refine And.intro (by first | assumption | rfl | (show (0:Int) < _; omega) | (show CDiv _ _; exact ⟨by omega, by omega⟩) | (show CMul _ _; first | exact .inl ⟨by omega, by omega⟩ | exact .inr ⟨by omega, by omega⟩) | (show CPow _ _; exact ⟨by omega, by omega, by omega⟩) | (show (_ : Nat) ≤ sizeLine; exact Nat.le_of_ble_eq_true rfl)) ?_) ))
      refine ⟨_, _, rfl, .inr h1, ?_⟩
      (repeat (first | (refine ⟨_, rfl, ?_⟩) | (refine ⟨_, _, rfl, rfl, ?_⟩) | (refine ⟨_, _, _, _, rfl, rfl, SqL.of (by assumption), (by rfl), ?_⟩) | (refine ⟨_, _, _, _, rfl, rfl, (by assumption), (by rfl), ?_⟩) | (refine ⟨_, _, _, _, rfl, rfl, SqL.of (by assumption), (by assumption), ?_⟩) | (refine ⟨_, _, rfl, .inl (SqL.of (by assumption)), ?_⟩) | (refine ⟨_, _, _, _, _, rfl, (by assumption), (by assumption), (by assumption), (by rfl), ?_⟩) | (refine ⟨_, _, _, _, rfl, (by assumption), (by assumption), (by assumption), (Nat.le_of_ble_eq_true rfl), ?_⟩) | (refine And.intro (by first | assumption | rfl | (show (0:Int) < _; omega) | (show CDiv _ _; exact ⟨by omega, by omega⟩) | (show CMul _ _; first | exact .inl ⟨by omega, by omega⟩ | exact .inr ⟨by omega, by omega⟩) | (show CPow _ _; exact ⟨by omega, by omega, by omega⟩) | (show (_ : Nat) ≤ sizeLine; exact Nat.le_of_ble_eq_true rfl)) ?_) ))
      refine ⟨Nat.le_trans (name_len nr).2 (by decide), fun H1 k1 => ?_⟩
      replace h1 := SqT.kp k1 h1
      replace h2 := SqT.kp k1 h2
      rw [nr]
      (repeat (first | (refine ⟨_, rfl, ?_⟩) | (refine ⟨_, _, rfl, rfl, ?_⟩) | (refine ⟨_, _, _, _, rfl, rfl, SqL.of (by assumption), (by rfl), ?_⟩) | (refine ⟨_, _, _, _, rfl, rfl, (by assumption), (by rfl), ?_⟩) | (refine ⟨_, _, _, _, rfl, rfl, SqL.of (by assumption), (by assumption), ?_⟩) | (refine ⟨_, _, rfl, .inl (SqL.of (by assumption)), ?_⟩) | (refine ⟨_, _, _, _, _, rfl, (by assumption), (by assumption), (by assumption), (by rfl), ?_⟩) | (refine ⟨_, _, _, _, rfl, (by assumption), (by assumption), (by assumption), (Nat.le_of_ble_eq_true rfl), ?_⟩) | (refine And.intro (by first | assumption | rfl | (show (0:Int) < _; omega) | (show CDiv _ _; exact ⟨by omega, by omega⟩) | (show CMul _ _; first | exact .inl ⟨by omega, by omega⟩ | exact .inr ⟨by omega, by omega⟩) | (show CPow _ _; exact ⟨by omega, by omega, by omega⟩) | (show (_ : Nat) ≤ sizeLine; exact Nat.le_of_ble_eq_true rfl)) ?_) ))
      refine ⟨_, "tuple", true, rfl, tyT h2, by decide, ?_⟩
      (repeat (first | (refine ⟨_, rfl, ?_⟩) | (refine ⟨_, _, rfl, rfl, ?_⟩) | (refine ⟨_, _, _, _, rfl, rfl, SqL.of (by assumption), (by rfl), ?_⟩) | (refine ⟨_, _, _, _, rfl, rfl, (by assumption), (by rfl), ?_⟩) | (refine ⟨_, _, _, _, rfl, rfl, SqL.of (by assumption), (by assumption), ?_⟩) | (refine ⟨_, _, rfl, .inl (SqL.of (by assumption)), ?_⟩) | (refine ⟨_, _, _, _, _, rfl, (by assumption), (by assumption), (by assumption), (by rfl), ?_⟩) | (refine ⟨_, _, _, _, rfl, (by assumption), (by assumption), (by assumption), (Nat.le_of_ble_eq_true rfl), ?_⟩) | (refine And.intro (by first | assumption | rfl | (show (0:Int) < _; omega) | (show CDiv _ _; exact ⟨by omega, by omega⟩) | (show CMul _ _; first | exact .inl ⟨by omega, by omega⟩ | exact .inr ⟨by omega, by omega⟩) | (show CPow _ _; exact ⟨by omega, by omega, by omega⟩) | (show (_ : Nat) ≤ sizeLine; exact Nat.le_of_ble_eq_true rfl)) ?_) ))
      exact k1
    · rintro _ H1 ⟨rfl, k1⟩
      replace h1 := SqT.kp k1 h1
      replace h2 := SqT.kp k1 h2
      replace hc := StrL.same k1 hc
      refine ⟨fun σ' H' => σ' = [some (V.ref c), some (V.ref a), none] ∧ Kp [] H1 H', ?_, ?_⟩
      · (repeat (first | (refine ⟨_, rfl, ?_⟩) | (refine ⟨_, _, rfl, rfl, ?_⟩) | (refine ⟨_, _, _, _, rfl, rfl, SqL.of (by assumption), (by rfl), ?_⟩) | (refine ⟨_, _, _, _, rfl, rfl, (by assumption), (by rfl), ?_⟩) | (refine ⟨_, _, _, _, rfl, rfl, SqL.of (by assumption), (by assumption), ?_⟩) | (refine ⟨_, _, rfl, .inl (SqL.of (by assumption)), ?_⟩) | (refine ⟨_, _, _, _, _, rfl, (by assumption), (by assumption), (by assumption), (by rfl), ?_⟩) | (refine ⟨_, _, _, _, rfl, (by assumption), (by assumption), (by assumption), (Nat.le_of_ble_eq_true rfl), ?_⟩) | (refine And.intro (by first | assumption | rfl | (show (0:Int) < _; omega) | (show CDiv _ _; exact ⟨by omega, by omega⟩) | (show CMul _ _; first | exact .inl ⟨by omega, by omega⟩ | exact .inr ⟨by omega, by omega⟩) | (show CPow _ _; exact ⟨by omega, by omega, by omega⟩) | (show (_ : Nat) ≤ sizeLine; exact Nat.le_of_ble_eq_true rfl)) ?_) ))
        refine ⟨_, _, rfl, .inr h2, ?_⟩
        (repeat (first | (refine ⟨_, rfl, ?_⟩) | (refine ⟨_, _, rfl, rfl, ?_⟩) | (refine ⟨_, _, _, _, rfl, rfl, SqL.of (by assumption), (by rfl), ?_⟩) | (refine ⟨_, _, _, _, rfl, rfl, (by assumption), (by rfl), ?_⟩) | (refine ⟨_, _, _, _, rfl, rfl, SqL.of (by assumption), (by assumption), ?_⟩) | (refine ⟨_, _, rfl, .inl (SqL.of (by assumption)), ?_⟩) | (refine ⟨_, _, _, _, _, rfl, (by assumption), (by assumption), (by assumption), (by rfl), ?_⟩) | (refine ⟨_, _, _, _, rfl, (by assumption), (by assumption), (by assumption), (Nat.le_of_ble_eq_true rfl), ?_⟩) | (refine And.intro (by first | assumption | rfl | (show (0:Int) < _; omega) | (show CDiv _ _; exact ⟨by omega, by omega⟩) | (show CMul _ _; first | exact .inl ⟨by omega, by omega⟩ | exact .inr ⟨by omega, by omega⟩) | (show CPow _ _; exact ⟨by omega, by omega, by omega⟩) | (show (_ : Nat) ≤ sizeLine; exact Nat.le_of_ble_eq_true rfl)) ?_) ))
        refine ite2 (fun g1 => ?_) (fun g1 => absurd ?_ g1)
        · (repeat (first | (refine ⟨_, rfl, ?_⟩) | (refine ⟨_, _, rfl, rfl, ?_⟩) | (refine ⟨_, _, _, _, rfl, rfl, SqL.of (by assumption), (by rfl), ?_⟩) | (refine ⟨_, _, _, _, rfl, rfl, (by assumption), (by rfl), ?_⟩) | (refine ⟨_, _, _, _, rfl, rfl, SqL.of (by assumption), (by assumption), ?_⟩) | (refine ⟨_, _, rfl, .inl (SqL.of (by assumption)), ?_⟩) | (refine ⟨_, _, _, _, _, rfl, (by assumption), (by assumption), (by assumption), (by rfl), ?_⟩) | (refine ⟨_, _, _, _, rfl, (by assumption), (by assumption), (by assumption), (Nat.le_of_ble_eq_true rfl), ?_⟩) | (refine And.intro (by first | assumption | rfl | (show (0:Int) < _; omega) | (show CDiv _ _; exact ⟨by omega, by omega⟩) | (show CMul _ _; first | exact .inl ⟨by omega, by omega⟩ | exact .inr ⟨by omega, by omega⟩) | (show CPow _ _; exact ⟨by omega, by omega, by omega⟩) | (show (_ : Nat) ≤ sizeLine; exact Nat.le_of_ble_eq_true rfl)) ?_) ))
          refine ite2 (fun g2 => ?_) (fun g2 => ?_)
          · simp at g2; omega
          · (repeat (first | (refine ⟨_, rfl, ?_⟩) | (refine ⟨_, _, rfl, rfl, ?_⟩) | (refine ⟨_, _, _, _, rfl, rfl, SqL.of (by assumption), (by rfl), ?_⟩) | (refine ⟨_, _, _, _, rfl, rfl, (by assumption), (by rfl), ?_⟩) | (refine ⟨_, _, _, _, rfl, rfl, SqL.of (by assumption), (by assumption), ?_⟩) | (refine ⟨_, _, rfl, .inl (SqL.of (by assumption)), ?_⟩) | (refine ⟨_, _, _, _, _, rfl, (by assumption), (by assumption), (by assumption), (by rfl), ?_⟩) | (refine ⟨_, _, _, _, rfl, (by assumption), (by assumption), (by assumption), (Nat.le_of_ble_eq_true rfl), ?_⟩) | (refine And.intro (by first | assumption | rfl | (show (0:Int) < _; omega) | (show CDiv _ _; exact ⟨by omega, by omega⟩) | (show CMul _ _; first | exact .inl ⟨by omega, by omega⟩ | exact .inr ⟨by omega, by omega⟩) | (show CPow _ _; exact ⟨by omega, by omega, by omega⟩) | (show (_ : Nat) ≤ sizeLine; exact Nat.le_of_ble_eq_true rfl)) ?_) ))
            refine ⟨_, cs, rfl, .inr h2, by omega, fun H2 k2 => ?_⟩
            rw [decide_eq_true nd]
            (repeat (first | (refine ⟨_, rfl, ?_⟩) | (refine ⟨_, _, rfl, rfl, ?_⟩) | (refine ⟨_, _, _, _, rfl, rfl, SqL.of (by assumption), (by rfl), ?_⟩) | (refine ⟨_, _, _, _, rfl, rfl, (by assumption), (by rfl), ?_⟩) | (refine ⟨_, _, _, _, rfl, rfl, SqL.of (by assumption), (by assumption), ?_⟩) | (refine ⟨_, _, rfl, .inl (SqL.of (by assumption)), ?_⟩) | (refine ⟨_, _, _, _, _, rfl, (by assumption), (by assumption), (by assumption), (by rfl), ?_⟩) | (refine ⟨_, _, _, _, rfl, (by assumption), (by assumption), (by assumption), (Nat.le_of_ble_eq_true rfl), ?_⟩) | (refine And.intro (by first | assumption | rfl | (show (0:Int) < _; omega) | (show CDiv _ _; exact ⟨by omega, by omega⟩) | (show CMul _ _; first | exact .inl ⟨by omega, by omega⟩ | exact .inr ⟨by omega, by omega⟩) | (show CPow _ _; exact ⟨by omega, by omega, by omega⟩) | (show (_ : Nat) ≤ sizeLine; exact Nat.le_of_ble_eq_true rfl)) ?_) ))
            exact k2
        · simp; omega
      · rintro _ H2 ⟨rfl, k2⟩
        replace h1 := SqT.kp k2 h1
        replace h2 := SqT.kp k2 h2
        replace hc := StrL.same k2 hc
        (repeat (first | (refine ⟨_, rfl, ?_⟩) | (refine ⟨_, _, rfl, rfl, ?_⟩) | (refine ⟨_, _, _, _, rfl, rfl, SqL.of (by assumption), (by rfl), ?_⟩) | (refine ⟨_, _, _, _, rfl, rfl, (by assumption), (by rfl), ?_⟩) | (refine ⟨_, _, _, _, rfl, rfl, SqL.of (by assumption), (by assumption), ?_⟩) | (refine ⟨_, _, rfl, .inl (SqL.of (by assumption)), ?_⟩) | (refine ⟨_, _, _, _, _, rfl, (by assumption), (by assumption), (by assumption), (by rfl), ?_⟩) | (refine ⟨_, _, _, _, rfl, (by assumption), (by assumption), (by assumption), (Nat.le_of_ble_eq_true rfl), ?_⟩) | (refine And.intro (by first | assumption | rfl | (show (0:Int) < _; omega) | (show CDiv _ _; exact ⟨by omega, by omega⟩) | (show CMul _ _; first | exact .inl ⟨by omega, by omega⟩ | exact .inr ⟨by omega, by omega⟩) | (show CPow _ _; exact ⟨by omega, by omega, by omega⟩) | (show (_ : Nat) ≤ sizeLine; exact Nat.le_of_ble_eq_true rfl)) ?_) ))
        refine ⟨⟨_, h2⟩, ?_⟩
        intro D hD
        refine lc_map (f := fun i => .bl true) walk_tup (by simp only [List.length_map]; exact Nat.le_trans ln.2 (by decide)) hD (fun H' k' => SqT.kp k' h2) ?_ ?_
        · rintro i x H3 H4 hi h0 k3 ⟨rfl, hx⟩
          rw [List.getElem?_map] at hx
          obtain ⟨y, hy, rfl⟩ := Option.map_eq_some_iff.mp hx
          (repeat (first | (refine ⟨_, rfl, ?_⟩) | (refine ⟨_, _, rfl, rfl, ?_⟩) | (refine ⟨_, _, _, _, rfl, rfl, SqL.of (by assumption), (by rfl), ?_⟩) | (refine ⟨_, _, _, _, rfl, rfl, (by assumption), (by rfl), ?_⟩) | (refine ⟨_, _, _, _, rfl, rfl, SqL.of (by assumption), (by assumption), ?_⟩) | (refine ⟨_, _, rfl, .inl (SqL.of (by assumption)), ?_⟩) | (refine ⟨_, _, _, _, _, rfl, (by assumption), (by assumption), (by assumption), (by rfl), ?_⟩) | (refine ⟨_, _, _, _, rfl, (by assumption), (by assumption), (by assumption), (Nat.le_of_ble_eq_true rfl), ?_⟩) | (refine And.intro (by first | assumption | rfl | (show (0:Int) < _; omega) | (show CDiv _ _; exact ⟨by omega, by omega⟩) | (show CMul _ _; first | exact .inl ⟨by omega, by omega⟩ | exact .inr ⟨by omega, by omega⟩) | (show CPow _ _; exact ⟨by omega, by omega, by omega⟩) | (show (_ : Nat) ≤ sizeLine; exact Nat.le_of_ble_eq_true rfl)) ?_) ))
          refine ⟨c, _, rfl, .inl (SqL.of (StrL.same k3 hc)), rfl, flat_strs _, ?_⟩
          refine map_to hD h0 k3 (Kp.refl _ _) (Nat.lt_of_lt_of_le hi (by simp only [List.length_map]; exact Nat.le_trans ln.2 (by decide))) ?_
          rw [inV_str]
          simp [sub y (List.mem_of_getElem? hy)]
        · intro H3 h3 k3
          have e : (List.range (cs.map V.str).length).map (fun _ => V.bl true) = ((List.range (cs.map V.str).length).map fun _ => true).map V.bl := by rw [List.map_map]; rfl
          rw [e] at h3
          refine ⟨_, _, rfl, SqL.of h3, ?_⟩
          have q := k _ ((k1.trans k2).trans k3)
          have e2 : (((List.range (cs.map V.str).length).map fun _ => true).all id) = true := by simp
          rw [e2]
          exact q
end
structure BOk (b : Bare) : Prop where
  name : nameB b.name = true
  cl : 1 ≤ b.cols.length ∧ b.cols.length ≤ 8
  cu : b.cols.Nodup
  cn : ∀ x ∈ b.cols, nameB x = true
  kl : b.key.length ≤ 8
  ku : b.key.Nodup
  ks : ∀ x ∈ b.key, x ∈ b.cols
  lie : LieOk b.cols b.lie
  sok : b.sok
/-- a new table, its two lists new -/
def TabNew (K : PySem.W.Frag) (C : Addr) (H0 H : Hp) (x : Addr) (b : Bare) : Prop := ∃ dx c k l, H x = some (.ins C dx [("name", .str b.name), ("columns", .ref c), ("key", .ref k), ("lies", l)]) ∧ StrL H c b.cols ∧ StrL H k b.key ∧ LieAt K H l b.lie ∧ H0 c = none ∧ H0 k = none
theorem TabNew.at {K : PySem.W.Frag} {C : Addr} {H0 H : Hp} {x : Addr} {b : Bare} (h : TabNew K C H0 H x b) : TabAt K C H (.ref x) b := by
  obtain ⟨dx, c, k, l, h1, h2, h3, h4, _⟩ := h
  exact ⟨x, dx, c, k, l, rfl, h1, h2, h3, h4⟩
def spInit (K : PySem.W.Frag) (C : Addr) : Sp := fun vs H Q _ => ∃ (x dx c k : Addr) (v : V) (b : Bare), vs = [.ref x, .str b.name, .ref c, .ref k, v] ∧ H x = some (.ins C dx []) ∧ StrL H c b.cols ∧ SqA K H k (b.key.map V.str) ∧ LieAt K H v b.lie ∧ BOk b ∧
  ∀ H', TabNew K C H H' x b → Kp [x] H H' → Q .non H'
section
variable {P : Program} {w : World} {K : PySem.W.Frag} {mg : Str → Option Value} {base : Heap} {aW aP C : Addr}
structure TabF (K : PySem.W.Frag) (C : Addr) : Prop where
  cls : Cls K C
  ha : PySem.W.findIn K (.ref C) "__class__" = some (some (.builtin "object.__class__"))
  hn : PySem.W.specialIn K (.builtin "object.__class__") "__get__" = some (some (.builtin "getset_descriptor.__get__"))
  htk : PySem.W.takesIn K (.builtin "object.__class__") = some true
  hm : PySem.W.mroIn K C (.type "object") = some true
  tSelf : PySem.W.kitOne K (.ref C) (.ref C) = some true
  tStr : PySem.W.kitOne K (.type "str") (.ref C) = some false
  tNon : PySem.W.kitOne K (.type "NoneType") (.ref C) = some false
  tLst : PySem.W.kitOne K (.type "list") (.ref C) = some false
  fSelf : PySem.W.notFirst K C (.ref C) = true
  fStr : PySem.W.notFirst K C (.type "str") = true
  fNon : PySem.W.notFirst K C (.type "NoneType") = true
  fLst : PySem.W.notFirst K C (.type "list") = true
  ne : PySem.W.findIn K (.ref C) "__ne__" = some (some (.builtin "object.__ne__"))
  mks : PySem.W.makesIn K C = true
  most : ∃ u, Con K C "MOST_COLUMNS" (.int 8) u
  n1 : NoAttr K C "name"
  n2 : NoAttr K C "columns"
  n3 : NoAttr K C "key"
  n4 : NoAttr K C "lies"
theorem bInit (T : Txt K mg aW aP C) (F : TabF K C) (cName : Cal P w K mg base 1 "is_name" spName) (cUnlike : Cal P w K mg base 1 "is_unlike" (spUnlike K)) (cIsLie : Cal P w K mg base 2 "is_lie" (spIsLie K))
    (f : Addr) (cdv : Value) (A : Around) (outer : List Env) (s : Shared) (H : Hp) (vs : List V) (Q : VK) (E : XK) (hr : Room 2 (A.deeper (PyProof.Rows.envOfC "Table.__init__" (defScope s_Table_init) s.heap.objs.size f cdv))) (h : spInit K C vs H Q E) :
    ∃ t, PSs (cxOf CX0 P w K mg base N_Table_init "Table.__init__" (defScope s_Table_init) f cdv A outer s H E).nox (defBody s_Table_init) t ∧ t { nx := fun _ H' => Q .non H', rt := Q } (start N_Table_init vs) H := by
  obtain ⟨x, dx, c, k, v, b, rfl, hx, hc, hk, hv, ok, q⟩ := h
  refine ⟨_, (pss_cons (ps_if (pt_not (pt_val (pe_c cName hr (by decide) (by rfl) (pa_cons (pv 1) pa_nil)))) (pss_one (ps_never)) pss_nil)
      (pss_cut (ps_if (PW.pt (pw_or (pt_not (pt_chain op_le op_le pe_int (pe_callB call_len_seq (by rfl) T.n_len (by decide +kernel) (pa_cons (pv 2) pa_nil)) (pe_con (pv 0) rfl))) (pw_or1 (pt_not (pt_val (pe_c cUnlike hr (by decide) (by rfl) (pa_cons (pv 2) pa_nil))))))) (pss_one (ps_never)) pss_nil)
      (pss_cons (ps_if (pt_not (pt_val (pe_callB (cr_all rfl) (by rfl) T.n_all (by decide +kernel) (pa_cons (pe_lc (own := [("column", 5)]) (by rfl) sc_Table_init.nd (pi_list (pv 2)) (blkOk_by (own := [("column", 5)]) (N := N_Table_init) (sc := defScope s_Table_init) (by decide +kernel)) (fun _ _ _ _ _ => pg_name (i := 5) sc_Table_init.nd rfl (Or.inl rfl)) (fun _ _ _ _ _ => pts_nil) (fun _ _ _ _ _ => pe_c cName hr (by decide) (by rfl) (pa_cons (pv 5) pa_nil))) pa_nil)))) (pss_one (ps_never)) pss_nil)
      (pss_cut (ps_if (PW.pt (pw_or (pt_not (pt_val (pe_c cUnlike hr (by decide) (by rfl) (pa_cons (pv 3) pa_nil)))) (pw_or1 (pt_not (pt_val (pe_callB (cr_all rfl) (by rfl) T.n_all (by decide +kernel) (pa_cons (pe_lc (own := [("column", 5)]) (by rfl) sc_Table_init.nd (pi_any (pv 3)) (blkOk_by (own := [("column", 5)]) (N := N_Table_init) (sc := defScope s_Table_init) (by decide +kernel)) (fun _ _ _ _ _ => pg_name (i := 5) sc_Table_init.nd rfl (Or.inl rfl)) (fun _ _ _ _ _ => pts_nil) (fun _ _ _ _ _ => pe_cmpR (op_in_seqK (K := K)) (pv 5) (pv 2) (by rfl))) pa_nil))))))) (pss_one (ps_never)) pss_nil)
      (pss_cons (ps_if (pt_not (pt_val (pe_c cIsLie hr (by decide) (by rfl) (pa_cons (pv 2) (pa_cons (pv 4) pa_nil))))) (pss_one (ps_never)) pss_nil)
      (pss_cons (ps_fld (pv 0) (pv 1) rfl)
      (pss_cons (ps_fld (pv 0) (pe_callTy call_list_of (by rfl) T.n_list (by decide +kernel) (pa_cons (pv 2) pa_nil)) rfl)
      (pss_cons (ps_fld (pv 0) (pe_callTy call_list_of (by rfl) T.n_list (by decide +kernel) (pa_cons (pv 3) pa_nil)) rfl)
      (pss_one (ps_fld (pv 0) (pv 4) rfl)))))))))), ?_⟩
  show (_ : TS) _ [some (V.ref x), some (V.str b.name), some (V.ref c), some (V.ref k), some v, none] H
  have kp : Kp [] H H := Kp.refl _ _
  (repeat (first | (refine ⟨_, rfl, ?_⟩) | (refine ⟨_, _, rfl, rfl, ?_⟩) | (refine ⟨_, _, _, _, rfl, rfl, SqL.of (by assumption), (by rfl), ?_⟩) | (refine ⟨_, _, _, _, rfl, rfl, (by assumption), (by rfl), ?_⟩) | (refine ⟨_, _, _, _, rfl, rfl, SqL.of (by assumption), (by assumption), ?_⟩) | (refine ⟨_, _, rfl, .inl (SqL.of (by assumption)), ?_⟩) | (refine ⟨_, _, _, _, _, rfl, (by assumption), (by assumption), (by assumption), (by rfl), ?_⟩) | (refine ⟨_, _, _, _, rfl, (by assumption), (by assumption), (by assumption), (Nat.le_of_ble_eq_true rfl), ?_⟩) | (refine And.intro (by first | assumption | rfl | (show (0:Int) < _; omega) | (show CDiv _ _; exact ⟨by omega, by omega⟩) | (show CMul _ _; first | exact .inl ⟨by omega, by omega⟩ | exact .inr ⟨by omega, by omega⟩) | (show CPow _ _; exact ⟨by omega, by omega, by omega⟩) | (show (_ : Nat) ≤ sizeLine; exact Nat.le_of_ble_eq_true rfl)) ?_) ))
  refine ⟨Nat.le_trans (name_len ok.name).2 (by decide), fun H1 k1 => ?_⟩
  rw [ok.name]
  refine ⟨_, rfl, iteF ?_⟩
  have lc8 : b.cols.length < sizeLine := Nat.lt_of_le_of_lt ok.cl.2 (by decide)
  have lk8 : b.key.length < sizeLine := Nat.lt_of_le_of_lt ok.kl (by decide)
  refine ⟨fun σ' H' => σ' = [some (V.ref x), some (V.str b.name), some (V.ref c), some (V.ref k), some v, none] ∧ Kp [] H H', ?_, ?_⟩
  · (repeat (first | (refine ⟨_, rfl, ?_⟩) | (refine ⟨_, _, rfl, rfl, ?_⟩) | (refine ⟨_, _, _, _, rfl, rfl, SqL.of (by assumption), (by rfl), ?_⟩) | (refine ⟨_, _, _, _, rfl, rfl, (by assumption), (by rfl), ?_⟩) | (refine ⟨_, _, _, _, rfl, rfl, SqL.of (by assumption), (by assumption), ?_⟩) | (refine ⟨_, _, rfl, .inl (SqL.of (by assumption)), ?_⟩) | (refine ⟨_, _, _, _, _, rfl, (by assumption), (by assumption), (by assumption), (by rfl), ?_⟩) | (refine ⟨_, _, _, _, rfl, (by assumption), (by assumption), (by assumption), (Nat.le_of_ble_eq_true rfl), ?_⟩) | (refine And.intro (by first | assumption | rfl | (show (0:Int) < _; omega) | (show CDiv _ _; exact ⟨by omega, by omega⟩) | (show CMul _ _; first | exact .inl ⟨by omega, by omega⟩ | exact .inr ⟨by omega, by omega⟩) | (show CPow _ _; exact ⟨by omega, by omega, by omega⟩) | (show (_ : Nat) ≤ sizeLine; exact Nat.le_of_ble_eq_true rfl)) ?_) ))
    refine ⟨_, _, rfl, .inl (SqL.of (StrL.same k1 hc)), ?_⟩
    (repeat (first | (refine ⟨_, rfl, ?_⟩) | (refine ⟨_, _, rfl, rfl, ?_⟩) | (refine ⟨_, _, _, _, rfl, rfl, SqL.of (by assumption), (by rfl), ?_⟩) | (refine ⟨_, _, _, _, rfl, rfl, (by assumption), (by rfl), ?_⟩) | (refine ⟨_, _, _, _, rfl, rfl, SqL.of (by assumption), (by assumption), ?_⟩) | (refine ⟨_, _, rfl, .inl (SqL.of (by assumption)), ?_⟩) | (refine ⟨_, _, _, _, _, rfl, (by assumption), (by assumption), (by assumption), (by rfl), ?_⟩) | (refine ⟨_, _, _, _, rfl, (by assumption), (by assumption), (by assumption), (Nat.le_of_ble_eq_true rfl), ?_⟩) | (refine And.intro (by first | assumption | rfl | (show (0:Int) < _; omega) | (show CDiv _ _; exact ⟨by omega, by omega⟩) | (show CMul _ _; first | exact .inl ⟨by omega, by omega⟩ | exact .inr ⟨by omega, by omega⟩) | (show CPow _ _; exact ⟨by omega, by omega, by omega⟩) | (show (_ : Nat) ≤ sizeLine; exact Nat.le_of_ble_eq_true rfl)) ?_) ))
    rw [List.length_map]
    obtain ⟨u, con⟩ := F.most
    refine ite2 (fun g1 => ?_) (fun g1 => absurd ?_ g1)
    · (repeat (first | (refine ⟨_, rfl, ?_⟩) | (refine ⟨_, _, rfl, rfl, ?_⟩) | (refine ⟨_, _, _, _, rfl, rfl, SqL.of (by assumption), (by rfl), ?_⟩) | (refine ⟨_, _, _, _, rfl, rfl, (by assumption), (by rfl), ?_⟩) | (refine ⟨_, _, _, _, rfl, rfl, SqL.of (by assumption), (by assumption), ?_⟩) | (refine ⟨_, _, rfl, .inl (SqL.of (by assumption)), ?_⟩) | (refine ⟨_, _, _, _, _, rfl, (by assumption), (by assumption), (by assumption), (by rfl), ?_⟩) | (refine ⟨_, _, _, _, rfl, (by assumption), (by assumption), (by assumption), (Nat.le_of_ble_eq_true rfl), ?_⟩) | (refine And.intro (by first | assumption | rfl | (show (0:Int) < _; omega) | (show CDiv _ _; exact ⟨by omega, by omega⟩) | (show CMul _ _; first | exact .inl ⟨by omega, by omega⟩ | exact .inr ⟨by omega, by omega⟩) | (show CPow _ _; exact ⟨by omega, by omega, by omega⟩) | (show (_ : Nat) ≤ sizeLine; exact Nat.le_of_ble_eq_true rfl)) ?_) ))
      refine ⟨x, C, dx, [], _, u, rfl, k1.same _ _ hx, F.cls, con, rfl, ?_⟩
      (repeat (first | (refine ⟨_, rfl, ?_⟩) | (refine ⟨_, _, rfl, rfl, ?_⟩) | (refine ⟨_, _, _, _, rfl, rfl, SqL.of (by assumption), (by rfl), ?_⟩) | (refine ⟨_, _, _, _, rfl, rfl, (by assumption), (by rfl), ?_⟩) | (refine ⟨_, _, _, _, rfl, rfl, SqL.of (by assumption), (by assumption), ?_⟩) | (refine ⟨_, _, rfl, .inl (SqL.of (by assumption)), ?_⟩) | (refine ⟨_, _, _, _, _, rfl, (by assumption), (by assumption), (by assumption), (by rfl), ?_⟩) | (refine ⟨_, _, _, _, rfl, (by assumption), (by assumption), (by assumption), (Nat.le_of_ble_eq_true rfl), ?_⟩) | (refine And.intro (by first | assumption | rfl | (show (0:Int) < _; omega) | (show CDiv _ _; exact ⟨by omega, by omega⟩) | (show CMul _ _; first | exact .inl ⟨by omega, by omega⟩ | exact .inr ⟨by omega, by omega⟩) | (show CPow _ _; exact ⟨by omega, by omega, by omega⟩) | (show (_ : Nat) ≤ sizeLine; exact Nat.le_of_ble_eq_true rfl)) ?_) ))
      refine ite2 (fun g2 => ?_) (fun g2 => ?_)
      · have := ok.cl; simp at g2; omega
      · (repeat (first | (refine ⟨_, rfl, ?_⟩) | (refine ⟨_, _, rfl, rfl, ?_⟩) | (refine ⟨_, _, _, _, rfl, rfl, SqL.of (by assumption), (by rfl), ?_⟩) | (refine ⟨_, _, _, _, rfl, rfl, (by assumption), (by rfl), ?_⟩) | (refine ⟨_, _, _, _, rfl, rfl, SqL.of (by assumption), (by assumption), ?_⟩) | (refine ⟨_, _, rfl, .inl (SqL.of (by assumption)), ?_⟩) | (refine ⟨_, _, _, _, _, rfl, (by assumption), (by assumption), (by assumption), (by rfl), ?_⟩) | (refine ⟨_, _, _, _, rfl, (by assumption), (by assumption), (by assumption), (Nat.le_of_ble_eq_true rfl), ?_⟩) | (refine And.intro (by first | assumption | rfl | (show (0:Int) < _; omega) | (show CDiv _ _; exact ⟨by omega, by omega⟩) | (show CMul _ _; first | exact .inl ⟨by omega, by omega⟩ | exact .inr ⟨by omega, by omega⟩) | (show CPow _ _; exact ⟨by omega, by omega, by omega⟩) | (show (_ : Nat) ≤ sizeLine; exact Nat.le_of_ble_eq_true rfl)) ?_) ))
        refine ⟨c, b.cols, rfl, .inl (SqL.of (StrL.same k1 hc)), by have := ok.cl; omega, fun H2 k2 => ?_⟩
        rw [decide_eq_true ok.cu]
        (repeat (first | (refine ⟨_, rfl, ?_⟩) | (refine ⟨_, _, rfl, rfl, ?_⟩) | (refine ⟨_, _, _, _, rfl, rfl, SqL.of (by assumption), (by rfl), ?_⟩) | (refine ⟨_, _, _, _, rfl, rfl, (by assumption), (by rfl), ?_⟩) | (refine ⟨_, _, _, _, rfl, rfl, SqL.of (by assumption), (by assumption), ?_⟩) | (refine ⟨_, _, rfl, .inl (SqL.of (by assumption)), ?_⟩) | (refine ⟨_, _, _, _, _, rfl, (by assumption), (by assumption), (by assumption), (by rfl), ?_⟩) | (refine ⟨_, _, _, _, rfl, (by assumption), (by assumption), (by assumption), (Nat.le_of_ble_eq_true rfl), ?_⟩) | (refine And.intro (by first | assumption | rfl | (show (0:Int) < _; omega) | (show CDiv _ _; exact ⟨by omega, by omega⟩) | (show CMul _ _; first | exact .inl ⟨by omega, by omega⟩ | exact .inr ⟨by omega, by omega⟩) | (show CPow _ _; exact ⟨by omega, by omega, by omega⟩) | (show (_ : Nat) ≤ sizeLine; exact Nat.le_of_ble_eq_true rfl)) ?_) ))
        exact k1.trans k2
    · have := ok.cl; simp; omega
  · rintro _ H2 ⟨rfl, k2⟩
    clear k1
    (repeat (first | (refine ⟨_, rfl, ?_⟩) | (refine ⟨_, _, rfl, rfl, ?_⟩) | (refine ⟨_, _, _, _, rfl, rfl, SqL.of (by assumption), (by rfl), ?_⟩) | (refine ⟨_, _, _, _, rfl, rfl, (by assumption), (by rfl), ?_⟩) | (refine ⟨_, _, _, _, rfl, rfl, SqL.of (by assumption), (by assumption), ?_⟩) | (refine ⟨_, _, rfl, .inl (SqL.of (by assumption)), ?_⟩) | (refine ⟨_, _, _, _, _, rfl, (by assumption), (by assumption), (by assumption), (by rfl), ?_⟩) | (refine ⟨_, _, _, _, rfl, (by assumption), (by assumption), (by assumption), (Nat.le_of_ble_eq_true rfl), ?_⟩) | (refine And.intro (by first | assumption | rfl | (show (0:Int) < _; omega) | (show CDiv _ _; exact ⟨by omega, by omega⟩) | (show CMul _ _; first | exact .inl ⟨by omega, by omega⟩ | exact .inr ⟨by omega, by omega⟩) | (show CPow _ _; exact ⟨by omega, by omega, by omega⟩) | (show (_ : Nat) ≤ sizeLine; exact Nat.le_of_ble_eq_true rfl)) ?_) ))
    refine ⟨⟨_, SqL.of (StrL.same k2 hc)⟩, ?_⟩
    intro D hD
    refine lc_map (f := fun i => .bl true) (walk_list (xs := b.cols.map V.str)) (by rw [List.length_map]; omega) hD (fun H' k' => SqL.of (StrL.same k' (StrL.same k2 hc))) ?_ ?_
    · rintro i y H3 H4 hi h0 k3 ⟨rfl, hy⟩
      rw [List.getElem?_map] at hy
      obtain ⟨z, hz, rfl⟩ := Option.map_eq_some_iff.mp hy
      have nz := ok.cn z (List.mem_of_getElem? hz)
      (repeat (first | (refine ⟨_, rfl, ?_⟩) | (refine ⟨_, _, rfl, rfl, ?_⟩) | (refine ⟨_, _, _, _, rfl, rfl, SqL.of (by assumption), (by rfl), ?_⟩) | (refine ⟨_, _, _, _, rfl, rfl, (by assumption), (by rfl), ?_⟩) | (refine ⟨_, _, _, _, rfl, rfl, SqL.of (by assumption), (by assumption), ?_⟩) | (refine ⟨_, _, rfl, .inl (SqL.of (by assumption)), ?_⟩) | (refine ⟨_, _, _, _, _, rfl, (by assumption), (by assumption), (by assumption), (by rfl), ?_⟩) | (refine ⟨_, _, _, _, rfl, (by assumption), (by assumption), (by assumption), (Nat.le_of_ble_eq_true rfl), ?_⟩) | (refine And.intro (by first | assumption | rfl | (show (0:Int) < _; omega) | (show CDiv _ _; exact ⟨by omega, by omega⟩) | (show CMul _ _; first | exact .inl ⟨by omega, by omega⟩ | exact .inr ⟨by omega, by omega⟩) | (show CPow _ _; exact ⟨by omega, by omega, by omega⟩) | (show (_ : Nat) ≤ sizeLine; exact Nat.le_of_ble_eq_true rfl)) ?_) ))
      refine ⟨Nat.le_trans (name_len nz).2 (by decide), fun H5 k5 => ?_⟩
      refine map_to hD h0 k3 k5 (by rw [List.length_map] at hi; omega) (by rw [nz])
    · intro H3 h3 k3
      have e : (List.range (b.cols.map V.str).length).map (fun _ => V.bl true) = ((List.range (b.cols.map V.str).length).map fun _ => true).map V.bl := by rw [List.map_map]; rfl
      rw [e] at h3
      refine ⟨_, _, rfl, SqL.of h3, ?_⟩
      have e2 : (((List.range (b.cols.map V.str).length).map fun _ => true).all id) = true := by simp
      rw [e2]
      replace k2 := k2.trans k3
      clear e e2 h3 k3 hD
      (repeat (first | (refine ⟨_, rfl, ?_⟩) | (refine ⟨_, _, rfl, rfl, ?_⟩) | (refine ⟨_, _, _, _, rfl, rfl, SqL.of (by assumption), (by rfl), ?_⟩) | (refine ⟨_, _, _, _, rfl, rfl, (by assumption), (by rfl), ?_⟩) | (refine ⟨_, _, _, _, rfl, rfl, SqL.of (by assumption), (by assumption), ?_⟩) | (refine ⟨_, _, rfl, .inl (SqL.of (by assumption)), ?_⟩) | (refine ⟨_, _, _, _, _, rfl, (by assumption), (by assumption), (by assumption), (by rfl), ?_⟩) | (refine ⟨_, _, _, _, rfl, (by assumption), (by assumption), (by assumption), (Nat.le_of_ble_eq_true rfl), ?_⟩) | (refine And.intro (by first | assumption | rfl | (show (0:Int) < _; omega) | (show CDiv _ _; exact ⟨by omega, by omega⟩) | (show CMul _ _; first | exact .inl ⟨by omega, by omega⟩ | exact .inr ⟨by omega, by omega⟩) | (show CPow _ _; exact ⟨by omega, by omega, by omega⟩) | (show (_ : Nat) ≤ sizeLine; exact Nat.le_of_ble_eq_true rfl)) ?_) ))
      refine ⟨fun σ' H' => σ' = [some (V.ref x), some (V.str b.name), some (V.ref c), some (V.ref k), some v, none] ∧ Kp [] H H', ?_, ?_⟩
      · (repeat (first | (refine ⟨_, rfl, ?_⟩) | (refine ⟨_, _, rfl, rfl, ?_⟩) | (refine ⟨_, _, _, _, rfl, rfl, SqL.of (by assumption), (by rfl), ?_⟩) | (refine ⟨_, _, _, _, rfl, rfl, (by assumption), (by rfl), ?_⟩) | (refine ⟨_, _, _, _, rfl, rfl, SqL.of (by assumption), (by assumption), ?_⟩) | (refine ⟨_, _, rfl, .inl (SqL.of (by assumption)), ?_⟩) | (refine ⟨_, _, _, _, _, rfl, (by assumption), (by assumption), (by assumption), (by rfl), ?_⟩) | (refine ⟨_, _, _, _, rfl, (by assumption), (by assumption), (by assumption), (Nat.le_of_ble_eq_true rfl), ?_⟩) | (refine And.intro (by first | assumption | rfl | (show (0:Int) < _; omega) | (show CDiv _ _; exact ⟨by omega, by omega⟩) | (show CMul _ _; first | exact .inl ⟨by omega, by omega⟩ | exact .inr ⟨by omega, by omega⟩) | (show CPow _ _; exact ⟨by omega, by omega, by omega⟩) | (show (_ : Nat) ≤ sizeLine; exact Nat.le_of_ble_eq_true rfl)) ?_) ))
        refine ⟨k, b.key, rfl, hk.same k2, by have := ok.kl; omega, fun H4 k4 => ?_⟩
        rw [decide_eq_true ok.ku]
        refine ⟨_, rfl, iteF ?_⟩
        replace k4 := k2.trans k4
        (repeat (first | (refine ⟨_, rfl, ?_⟩) | (refine ⟨_, _, rfl, rfl, ?_⟩) | (refine ⟨_, _, _, _, rfl, rfl, SqL.of (by assumption), (by rfl), ?_⟩) | (refine ⟨_, _, _, _, rfl, rfl, (by assumption), (by rfl), ?_⟩) | (refine ⟨_, _, _, _, rfl, rfl, SqL.of (by assumption), (by assumption), ?_⟩) | (refine ⟨_, _, rfl, .inl (SqL.of (by assumption)), ?_⟩) | (refine ⟨_, _, _, _, _, rfl, (by assumption), (by assumption), (by assumption), (by rfl), ?_⟩) | (refine ⟨_, _, _, _, rfl, (by assumption), (by assumption), (by assumption), (Nat.le_of_ble_eq_true rfl), ?_⟩) | (refine And.intro (by first | assumption | rfl | (show (0:Int) < _; omega) | (show CDiv _ _; exact ⟨by omega, by omega⟩) | (show CMul _ _; first | exact .inl ⟨by omega, by omega⟩ | exact .inr ⟨by omega, by omega⟩) | (show CPow _ _; exact ⟨by omega, by omega, by omega⟩) | (show (_ : Nat) ≤ sizeLine; exact Nat.le_of_ble_eq_true rfl)) ?_) ))
        refine ⟨_, _, rfl, hk.same k4, ?_⟩
        intro J G hG wk
        intro D hD
        refine lc_map (f := fun i => .bl true) wk (by rw [List.length_map]; omega) hD hG ?_ ?_
        · rintro i y H5 H6 hi h0 k5 ⟨rfl, hy⟩
          rw [List.getElem?_map] at hy
          obtain ⟨z, hz, rfl⟩ := Option.map_eq_some_iff.mp hy
          have nz := ok.ks z (List.mem_of_getElem? hz)
          (repeat (first | (refine ⟨_, rfl, ?_⟩) | (refine ⟨_, _, rfl, rfl, ?_⟩) | (refine ⟨_, _, _, _, rfl, rfl, SqL.of (by assumption), (by rfl), ?_⟩) | (refine ⟨_, _, _, _, rfl, rfl, (by assumption), (by rfl), ?_⟩) | (refine ⟨_, _, _, _, rfl, rfl, SqL.of (by assumption), (by assumption), ?_⟩) | (refine ⟨_, _, rfl, .inl (SqL.of (by assumption)), ?_⟩) | (refine ⟨_, _, _, _, _, rfl, (by assumption), (by assumption), (by assumption), (by rfl), ?_⟩) | (refine ⟨_, _, _, _, rfl, (by assumption), (by assumption), (by assumption), (Nat.le_of_ble_eq_true rfl), ?_⟩) | (refine And.intro (by first | assumption | rfl | (show (0:Int) < _; omega) | (show CDiv _ _; exact ⟨by omega, by omega⟩) | (show CMul _ _; first | exact .inl ⟨by omega, by omega⟩ | exact .inr ⟨by omega, by omega⟩) | (show CPow _ _; exact ⟨by omega, by omega, by omega⟩) | (show (_ : Nat) ≤ sizeLine; exact Nat.le_of_ble_eq_true rfl)) ?_) ))
          refine ⟨c, _, rfl, .inl (SqL.of (StrL.same k5 (StrL.same k4 hc))), rfl, flat_strs _, ?_⟩
          refine map_to hD h0 k5 (Kp.refl _ _) (by rw [List.length_map] at hi; omega) ?_
          rw [inV_str]
          simp [nz]
        · intro H5 h5 k5
          have e : (List.range (b.key.map V.str).length).map (fun _ => V.bl true) = ((List.range (b.key.map V.str).length).map fun _ => true).map V.bl := by rw [List.map_map]; rfl
          rw [e] at h5
          refine ⟨_, _, rfl, SqL.of h5, ?_⟩
          have e2 : (((List.range (b.key.map V.str).length).map fun _ => true).all id) = true := by simp
          rw [e2]
          exact ⟨_, rfl, iteF ⟨rfl, k4.trans k5⟩⟩
      · rintro _ H4 ⟨rfl, k4⟩
        clear k2
        (repeat (first | (refine ⟨_, rfl, ?_⟩) | (refine ⟨_, _, rfl, rfl, ?_⟩) | (refine ⟨_, _, _, _, rfl, rfl, SqL.of (by assumption), (by rfl), ?_⟩) | (refine ⟨_, _, _, _, rfl, rfl, (by assumption), (by rfl), ?_⟩) | (refine ⟨_, _, _, _, rfl, rfl, SqL.of (by assumption), (by assumption), ?_⟩) | (refine ⟨_, _, rfl, .inl (SqL.of (by assumption)), ?_⟩) | (refine ⟨_, _, _, _, _, rfl, (by assumption), (by assumption), (by assumption), (by rfl), ?_⟩) | (refine ⟨_, _, _, _, rfl, (by assumption), (by assumption), (by assumption), (Nat.le_of_ble_eq_true rfl), ?_⟩) | (refine And.intro (by first | assumption | rfl | (show (0:Int) < _; omega) | (show CDiv _ _; exact ⟨by omega, by omega⟩) | (show CMul _ _; first | exact .inl ⟨by omega, by omega⟩ | exact .inr ⟨by omega, by omega⟩) | (show CPow _ _; exact ⟨by omega, by omega, by omega⟩) | (show (_ : Nat) ≤ sizeLine; exact Nat.le_of_ble_eq_true rfl)) ?_) ))
        refine ⟨c, v, b.cols, b.lie, rfl, StrL.same k4 hc, hv.same k4, ok.sok.lie, ok.lie, fun H5 k5 => ?_⟩
        refine ⟨_, rfl, iteF ?_⟩
        replace k5 := k4.trans k5
        clear k4
        have hx5 := k5.same _ _ hx
        have hc5 := StrL.same k5 hc
        have hk5 := hk.same k5
        have hv5 := hv.same k5
        have f0 := F.cls
        have f1 := F.n1
        have f2 := F.n2
        have f3 := F.n3
        have f4 := F.n4
        clear hx hc hk hv
        (repeat (first | (refine ⟨_, rfl, ?_⟩) | (refine ⟨_, _, rfl, rfl, ?_⟩) | (refine ⟨_, _, _, _, rfl, rfl, SqL.of (by assumption), (by rfl), ?_⟩) | (refine ⟨_, _, _, _, rfl, rfl, (by assumption), (by rfl), ?_⟩) | (refine ⟨_, _, _, _, rfl, rfl, SqL.of (by assumption), (by assumption), ?_⟩) | (refine ⟨_, _, rfl, .inl (SqL.of (by assumption)), ?_⟩) | (refine ⟨_, _, _, _, _, rfl, (by assumption), (by assumption), (by assumption), (by rfl), ?_⟩) | (refine ⟨_, _, _, _, rfl, (by assumption), (by assumption), (by assumption), (Nat.le_of_ble_eq_true rfl), ?_⟩) | (refine And.intro (by first | assumption | rfl | (show (0:Int) < _; omega) | (show CDiv _ _; exact ⟨by omega, by omega⟩) | (show CMul _ _; first | exact .inl ⟨by omega, by omega⟩ | exact .inr ⟨by omega, by omega⟩) | (show CPow _ _; exact ⟨by omega, by omega, by omega⟩) | (show (_ : Nat) ≤ sizeLine; exact Nat.le_of_ble_eq_true rfl)) ?_) ))
        generalize e6 : upd H5 x _ = H6
        have hx6 : H6 x = some (.ins C dx [("name", .str b.name)]) := e6 ▸ upd_same
        have hc6 : StrL H6 c b.cols := e6 ▸ StrL.put hx5 hc5
        have hk6 : SqA K H6 k (b.key.map V.str) := e6 ▸ SqA.put hx5 hk5
        have hv6 : LieAt K H6 v b.lie := e6 ▸ LieAt.put hx5 hv5
        have k6 : Kp [x] H H6 := (k5.mono (fun _ z => nomatch z)).trans (e6 ▸ Kp.put hx5)
        clear e6 hx5 hc5 hk5 hv5 k5
        refine ⟨_, _, rfl, .inl (SqL.of hc6), ?_⟩
        (intro p hp; have fp := k6.dom p hp; generalize eH : upd H6 p _ = H7; have k12 : Kp [] H6 H7 := eH ▸ Kp.new hp; replace hp := (congrFun eH.symm p).trans upd_same; clear eH; replace hx6 := k12.same _ _ hx6; replace hc6 := StrL.same k12 hc6; replace hk6 := SqA.same k12 hk6; replace hv6 := LieAt.same k12 hv6; replace k6 := k6.trans (k12.mono (fun _ z => nomatch z)); clear k12)
        (repeat (first | (refine ⟨_, rfl, ?_⟩) | (refine ⟨_, _, rfl, rfl, ?_⟩) | (refine ⟨_, _, _, _, rfl, rfl, SqL.of (by assumption), (by rfl), ?_⟩) | (refine ⟨_, _, _, _, rfl, rfl, (by assumption), (by rfl), ?_⟩) | (refine ⟨_, _, _, _, rfl, rfl, SqL.of (by assumption), (by assumption), ?_⟩) | (refine ⟨_, _, rfl, .inl (SqL.of (by assumption)), ?_⟩) | (refine ⟨_, _, _, _, _, rfl, (by assumption), (by assumption), (by assumption), (by rfl), ?_⟩) | (refine ⟨_, _, _, _, rfl, (by assumption), (by assumption), (by assumption), (Nat.le_of_ble_eq_true rfl), ?_⟩) | (refine And.intro (by first | assumption | rfl | (show (0:Int) < _; omega) | (show CDiv _ _; exact ⟨by omega, by omega⟩) | (show CMul _ _; first | exact .inl ⟨by omega, by omega⟩ | exact .inr ⟨by omega, by omega⟩) | (show CPow _ _; exact ⟨by omega, by omega, by omega⟩) | (show (_ : Nat) ≤ sizeLine; exact Nat.le_of_ble_eq_true rfl)) ?_) ))
        generalize e8 : upd H7 x _ = H8
        have hx8 : H8 x = some (.ins C dx [("name", .str b.name), ("columns", .ref p)]) := e8 ▸ upd_same
        have hp8 : StrL H8 p b.cols := e8 ▸ StrL.put hx6 hp
        have hk8 : SqA K H8 k (b.key.map V.str) := e8 ▸ SqA.put hx6 hk6
        have hv8 : LieAt K H8 v b.lie := e8 ▸ LieAt.put hx6 hv6
        have k8 : Kp [x] H H8 := k6.trans (e8 ▸ Kp.put hx6)
        clear e8 hx6 hc6 hk6 hv6 k6 hp
        refine ⟨_, _, rfl, hk8, ?_⟩
        (intro y hy; have fy := k8.dom y hy; generalize eH : upd H8 y _ = H9; have k12 : Kp [] H8 H9 := eH ▸ Kp.new hy; replace hy := (congrFun eH.symm y).trans upd_same; clear eH; replace hx8 := k12.same _ _ hx8; replace hp8 := StrL.same k12 hp8; replace hv8 := LieAt.same k12 hv8; replace k8 := k8.trans (k12.mono (fun _ z => nomatch z)); clear k12)
        (repeat (first | (refine ⟨_, rfl, ?_⟩) | (refine ⟨_, _, rfl, rfl, ?_⟩) | (refine ⟨_, _, _, _, rfl, rfl, SqL.of (by assumption), (by rfl), ?_⟩) | (refine ⟨_, _, _, _, rfl, rfl, (by assumption), (by rfl), ?_⟩) | (refine ⟨_, _, _, _, rfl, rfl, SqL.of (by assumption), (by assumption), ?_⟩) | (refine ⟨_, _, rfl, .inl (SqL.of (by assumption)), ?_⟩) | (refine ⟨_, _, _, _, _, rfl, (by assumption), (by assumption), (by assumption), (by rfl), ?_⟩) | (refine ⟨_, _, _, _, rfl, (by assumption), (by assumption), (by assumption), (Nat.le_of_ble_eq_true rfl), ?_⟩) | (refine And.intro (by first | assumption | rfl | (show (0:Int) < _; omega) | (show CDiv _ _; exact ⟨by omega, by omega⟩) | (show CMul _ _; first | exact .inl ⟨by omega, by omega⟩ | exact .inr ⟨by omega, by omega⟩) | (show CPow _ _; exact ⟨by omega, by omega, by omega⟩) | (show (_ : Nat) ≤ sizeLine; exact Nat.le_of_ble_eq_true rfl)) ?_) ))
        generalize eA : upd H9 x _ = HA
        have hxA : HA x = some (.ins C dx [("name", .str b.name), ("columns", .ref p), ("key", .ref y)]) := eA ▸ upd_same
        have hpA : StrL HA p b.cols := eA ▸ StrL.put hx8 hp8
        have hyA : StrL HA y b.key := eA ▸ StrL.put hx8 hy
        have hvA : LieAt K HA v b.lie := eA ▸ LieAt.put hx8 hv8
        have kA : Kp [x] H HA := k8.trans (eA ▸ Kp.put hx8)
        clear eA hx8 hp8 hv8 k8
        (repeat (first | (refine ⟨_, rfl, ?_⟩) | (refine ⟨_, _, rfl, rfl, ?_⟩) | (refine ⟨_, _, _, _, rfl, rfl, SqL.of (by assumption), (by rfl), ?_⟩) | (refine ⟨_, _, _, _, rfl, rfl, (by assumption), (by rfl), ?_⟩) | (refine ⟨_, _, _, _, rfl, rfl, SqL.of (by assumption), (by assumption), ?_⟩) | (refine ⟨_, _, rfl, .inl (SqL.of (by assumption)), ?_⟩) | (refine ⟨_, _, _, _, _, rfl, (by assumption), (by assumption), (by assumption), (by rfl), ?_⟩) | (refine ⟨_, _, _, _, rfl, (by assumption), (by assumption), (by assumption), (Nat.le_of_ble_eq_true rfl), ?_⟩) | (refine And.intro (by first | assumption | rfl | (show (0:Int) < _; omega) | (show CDiv _ _; exact ⟨by omega, by omega⟩) | (show CMul _ _; first | exact .inl ⟨by omega, by omega⟩ | exact .inr ⟨by omega, by omega⟩) | (show CPow _ _; exact ⟨by omega, by omega, by omega⟩) | (show (_ : Nat) ≤ sizeLine; exact Nat.le_of_ble_eq_true rfl)) ?_) ))
        refine q _ ⟨dx, p, y, v, upd_same, StrL.put hxA hpA, StrL.put hxA hyA, LieAt.put hxA hvA, fp, fy⟩ (kA.trans (Kp.put hxA))
end
end K14

namespace K14
open PySem L2 GB G1 Tb
section
variable {P : Program} {w : World} {K : PySem.W.Frag} {mg : Str → Option Value} {base : Heap} {aW aP C dk dl : Addr}
theorem spInit_len {vs : List V} {H : Hp} {Q : VK} {E : XK} (h : spInit K C vs H Q E) : vs.length = 5 := by
  obtain ⟨x, dx, c, k, v, b, rfl, _⟩ := h; rfl
abbrev kws0 (dk dl : Addr) : List (Str × V) := [("key", .ref dk), ("lies", .ref dl)]
theorem kAB (D : MthD K C "__init__" "Table.__init__" s_Table_init (kws0 dk dl)) (Kc : Kls K mg "Table" C) (T : Txt K mg aW aP C) (F : TabF K C) (cName : Cal P w K mg base 1 "is_name" spName) (cUnlike : Cal P w K mg base 1 "is_unlike" (spUnlike K)) (cIsLie : Cal P w K mg base 2 "is_lie" (spIsLie K)) :
    KMk P w K mg base 3 "Table" C 2 ["key", "lies"] (fun vs zs => vs ++ zs) (spInit K C) :=
  kmk D Kc sc_Table_init (fun _ _ _ _ h => spInit_len h) (bInit T F cName cUnlike cIsLie) 2 ["key", "lies"] [] (fun us _ ws => us ++ ws) (by simp) (by simp) (fun a _ c => a.append c)
    (fun _ _ _ _ _ _ us mv ws h1 h2 h3 => match us, h1, mv, h2, ws, h3 with | [_, _, _], _, [], _, [_, _], _ => rfl)
theorem kL (D : MthD K C "__init__" "Table.__init__" s_Table_init (kws0 dk dl)) (Kc : Kls K mg "Table" C) (T : Txt K mg aW aP C) (F : TabF K C) (cName : Cal P w K mg base 1 "is_name" spName) (cUnlike : Cal P w K mg base 1 "is_unlike" (spUnlike K)) (cIsLie : Cal P w K mg base 2 "is_lie" (spIsLie K)) :
    KMk P w K mg base 3 "Table" C 2 ["lies"] (fun vs zs => vs ++ [.ref dk] ++ zs) (spInit K C) :=
  kmk D Kc sc_Table_init (fun _ _ _ _ h => spInit_len h) (bInit T F cName cUnlike cIsLie) 2 ["lies"] [("key", .ref dk)] (fun us mv ws => us ++ mv ++ ws) (by simp) (by simp) (fun a b c => (a.append b).append c)
    (fun _ _ _ _ _ _ us mv ws h1 h2 h3 => match us, h1, mv, h2, ws, h3 with | [_, _, _], _, [_], _, [_], _ => ⟨_, _, _, _, _, _, rfl, rfl, rfl⟩)
theorem kK (D : MthD K C "__init__" "Table.__init__" s_Table_init (kws0 dk dl)) (Kc : Kls K mg "Table" C) (T : Txt K mg aW aP C) (F : TabF K C) (cName : Cal P w K mg base 1 "is_name" spName) (cUnlike : Cal P w K mg base 1 "is_unlike" (spUnlike K)) (cIsLie : Cal P w K mg base 2 "is_lie" (spIsLie K)) :
    KMk P w K mg base 3 "Table" C 2 ["key"] (fun vs zs => vs ++ zs ++ [.ref dl]) (spInit K C) :=
  kmk D Kc sc_Table_init (fun _ _ _ _ h => spInit_len h) (bInit T F cName cUnlike cIsLie) 2 ["key"] [("lies", .ref dl)] (fun us mv ws => us ++ ws ++ mv) (by simp) (by simp) (fun a b c => (a.append c).append b)
    (fun _ _ _ _ _ _ us mv ws h1 h2 h3 => match us, h1, mv, h2, ws, h3 with | [_, _, _], _, [_], _, [_], _ => ⟨_, _, _, _, _, _, rfl, rfl, rfl⟩)
theorem k0 (D : MthD K C "__init__" "Table.__init__" s_Table_init (kws0 dk dl)) (Kc : Kls K mg "Table" C) (T : Txt K mg aW aP C) (F : TabF K C) (cName : Cal P w K mg base 1 "is_name" spName) (cUnlike : Cal P w K mg base 1 "is_unlike" (spUnlike K)) (cIsLie : Cal P w K mg base 2 "is_lie" (spIsLie K)) :
    KMk P w K mg base 3 "Table" C 2 [] (fun vs _ => vs ++ [.ref dk, .ref dl]) (spInit K C) :=
  kmk D Kc sc_Table_init (fun _ _ _ _ h => spInit_len h) (bInit T F cName cUnlike cIsLie) 2 [] [("key", .ref dk), ("lies", .ref dl)] (fun us mv _ => us ++ mv) (by simp) (by simp) (fun a b _ => a.append b)
    (fun _ _ _ _ _ _ us mv ws h1 h2 h3 => match us, h1, mv, h2, ws, h3 with | [_, _, _], _, [_, _], _, [], _ => ⟨_, _, _, _, _, _, rfl, rfl, _, _, _, _, _, _, rfl, rfl, rfl⟩)
end
end K14

namespace K14
open PySem L2 GB G1 Tb
def Lw : Lie → List Str
  | .copied => ["copied"]
  | .anyhow => ["anyhow"]
  | .zero => ["zero"]
  | .dealt r cs => ("dealt" : Str) :: r :: cs
def w1 (b : Bare) : List Str := ("table" : Str) :: b.name :: b.cols
def kw (b : Bare) : List Str := if b.key = [] then [] else ("key" : Str) :: b.key
def rowWords (b : Bare) : List Str := w1 b ++ kw b ++ Lw b.lie
def row (b : Bare) : Str := Txt.join " " (rowWords b)
def spStr (K : PySem.W.Frag) (C : Addr) : Sp := fun vs H Q _ => ∃ (v : V) (b : Bare), vs = [v] ∧ TabAt K C H v b ∧ BOk b ∧ ∀ H', Kp [] H H' → Q (.str (row b)) H'
theorem lieCase {K : PySem.W.Frag} {H : Hp} {v : V} {l : Lie} (h : LieAt K H v l) : (∃ a w, v = .ref a ∧ SqT K H a [.str w] ∧ Lw l = [w]) ∨ ∃ a b r cs, v = .ref a ∧ l = .dealt r cs ∧ SqT K H a [.str "dealt", .str r, .ref b] ∧ SqT K H b (cs.map .str) := by
  cases l with
  | dealt r cs => obtain ⟨a, b, e, h1, h2⟩ := h; exact .inr ⟨a, b, r, cs, e, rfl, h1, h2⟩
  | _ => obtain ⟨a, e, h1⟩ := h; exact .inl ⟨a, _, e, h1, rfl⟩
theorem SqT.same {K : PySem.W.Frag} {H H' : Hp} {a : Addr} {xs : List V} (k : Kp [] H H') (h : SqT K H a xs) : SqT K H' a xs := same_sqT k.same h
theorem sum_le8 : ∀ l : List Str, (∀ x ∈ l, x.length ≤ 8) → (l.map (·.length)).sum ≤ 8 * l.length
  | [], _ => by simp
  | x :: xs, h => by
    have := sum_le8 xs fun y hy => h y (List.mem_cons_of_mem _ hy)
    have := h x (List.mem_cons_self ..)
    simp only [List.map_cons, List.sum_cons, List.length_cons]; omega
theorem row_len {b : Bare} (ok : BOk b) : (rowWords b).length ≤ 30 := by
  have := ok.cl; have := ok.kl; have := ok.lie
  have h1 : (w1 b ++ kw b).length ≤ 20 := by by_cases z : b.key = [] <;> simp [w1, kw, z] <;> omega
  have h2 : (Lw b.lie).length ≤ 5 := by
    cases h : b.lie with
    | dealt r cs => rw [h] at this; have := this.2.1; simp [Lw]; omega
    | _ => simp [Lw]
  rw [rowWords, List.length_append]; omega
theorem row_word {b : Bare} (ok : BOk b) : ∀ x ∈ rowWords b, x.length ≤ 8 := by
  have cn : ∀ x ∈ b.cols, x.length ≤ 8 := fun x h => (name_len (ok.cn x h)).2
  have l5 : Str.length "table" = 5 ∧ Str.length "key" = 3 ∧ Str.length "dealt" = 5 ∧ Str.length "copied" = 6 ∧ Str.length "anyhow" = 6 ∧ Str.length "zero" = 4 := by decide +kernel
  intro x hx
  simp only [rowWords, List.mem_append] at hx
  rcases hx with (hx | hx) | hx
  · simp only [w1, List.mem_cons] at hx
    rcases hx with rfl | rfl | hx
    · omega
    · exact (name_len ok.name).2
    · exact cn x hx
  · by_cases z : b.key = []
    · simp [kw, z] at hx
    · simp only [kw, if_neg z, List.mem_cons] at hx
      rcases hx with rfl | hx
      · omega
      · exact cn x (ok.ks x hx)
  · have := ok.lie
    cases h : b.lie with
    | dealt r cs =>
      rw [h] at hx this
      simp only [Lw, List.mem_cons] at hx
      rcases hx with rfl | rfl | hx
      · omega
      · exact (name_len this.1).2
      · exact cn x (this.2.2.2 x hx)
    | _ => rw [h] at hx; simp only [Lw, List.mem_cons, List.not_mem_nil, or_false] at hx; subst hx; omega
theorem row_sum {b : Bare} (ok : BOk b) : ((rowWords b).map (·.length)).sum + (rowWords b).length * Str.length " " ≤ 16777216 := by
  have h1 := sum_le8 _ (row_word ok)
  have h2 := row_len ok
  have h3 : Str.length " " = 1 := by decide +kernel
  rw [h3]; omega
section
variable {P : Program} {w : World} {K : PySem.W.Frag} {mg : Str → Option Value} {base : Heap} {aW aP C dk dl : Addr}
theorem mStr (D : Mth K C "__str__" "Table.__str__" s_Table_str) (T : Txt K mg aW aP C) (F : TabF K C) : Met P w K mg base 1 C "__str__" (spStr K C) := by
  refine met D sc_Table_str (fun _ _ _ _ _ _ us hl => match us, hl with | [_], _ => rfl) (fun vs H Q E h => ?_) (fun f cdv A outer s H vs Q E hr h => ?_)
  · obtain ⟨v, b, rfl, _⟩ := h; rfl
  · obtain ⟨v, b, rfl, ht, ok, k⟩ := h
    refine ⟨_, (pss_cons (ps_set (i := 1) sc_Table_str.nd rfl (Or.inl rfl) (pe_lst (pa_cons pe_str (pa_cons (pe_fld (pv 0) rfl) (StX.pa_star (pe_fld (pv 0) rfl) pa_nil)))))
      (pss_cut (ps_if (pt_cmpR (op_neNil hr) (pe_fld (pv 0) rfl) (pe_lst pa_nil) (nomark _)) (pss_one (ps_set (i := 1) sc_Table_str.nd rfl (Or.inl rfl) (pe_lst (StX.pa_star (pv 1) (pa_cons pe_str (StX.pa_star (pe_fld (pv 0) rfl) pa_nil)))))) pss_nil)
      (pss_cons (ps_set (i := 1) sc_Table_str.nd rfl (Or.inl rfl) (pe_lst (StX.pa_star (pv 1) (StX.pa_star (pe_slice sl_tupA (pe_fld (pv 0) rfl) po_none (po_some pe_int)) pa_nil))))
      (pss_cut (ps_if (pt_cmpR op_eq (pe_callB call_len_seq (by rfl) T.n_len (by decide +kernel) (pa_cons (pe_fld (pv 0) rfl) pa_nil)) pe_int (nomark _)) (pss_one (ps_set (i := 1) sc_Table_str.nd rfl (Or.inl rfl) (pe_lst (StX.pa_star (pv 1) (StX.pa_star (pe_ix ix_tup (pe_fld (pv 0) rfl) pe_int (fun _ _ => rfl)) pa_nil))))) pss_nil)
      (pss_one (ps_ret (pe_join pe_str (pv 1)))))))), ?_⟩
    show (_ : TS) _ [some v, none] H
    obtain ⟨x, dx, c, y, l, rfl, hx, hc, hy, hl⟩ := ht
    have f0 := F.cls
    have f1 := F.n1
    have f2 := F.n2
    have f3 := F.n3
    have f4 := F.n4
    have kp : Kp [] H H := Kp.refl _ _
    (repeat (first | (refine ⟨_, rfl, ?_⟩) | (refine ⟨_, _, rfl, rfl, ?_⟩) | (refine ⟨_, _, _, _, rfl, rfl, SqL.of (by assumption), (by rfl), ?_⟩) | (refine ⟨_, _, _, _, rfl, rfl, (by assumption), (by rfl), ?_⟩) | (refine ⟨_, _, _, _, rfl, rfl, SqL.of (by assumption), (by assumption), ?_⟩) | (refine ⟨_, _, rfl, .inl (SqL.of (by assumption)), ?_⟩) | (refine ⟨_, _, _, _, _, rfl, (by assumption), (by assumption), (by assumption), (by rfl), ?_⟩) | (refine ⟨_, _, _, _, rfl, (by assumption), (by assumption), (by assumption), (Nat.le_of_ble_eq_true rfl), ?_⟩) | (refine And.intro (by first | assumption | rfl | (show (0:Int) < _; omega) | (show CDiv _ _; exact ⟨by omega, by omega⟩) | (show CMul _ _; first | exact .inl ⟨by omega, by omega⟩ | exact .inr ⟨by omega, by omega⟩) | (show CPow _ _; exact ⟨by omega, by omega, by omega⟩) | (show (_ : Nat) ≤ sizeLine; exact Nat.le_of_ble_eq_true rfl)) ?_) ))
    refine ⟨_, _, rfl, .inr (SqL.of hc), ?_⟩
    refine ⟨by have := ok.cl; simp; exact Nat.le_trans (Nat.succ_le_succ (Nat.succ_le_succ this.2)) (by decide), ?_⟩
    (intro p hp; generalize eH : upd H p _ = H1; have k12 : Kp [] H H1 := eH ▸ Kp.new hp; replace hp := (congrFun eH.symm p).trans upd_same; clear eH; replace hx := k12.same _ _ hx; replace hc := StrL.same k12 hc; replace hy := StrL.same k12 hy; replace hl := LieAt.same k12 hl; replace kp := kp.trans (k12.mono (fun _ z => nomatch z)); clear k12)
    replace hp : StrL H1 p (w1 b) := by show H1 p = _; simpa [w1] using hp
    refine ⟨fun σ' H' => ∃ q : Addr, σ' = [some (V.ref x), some (V.ref q)] ∧ StrL H' q (w1 b ++ kw b) ∧ Kp [] H1 H', ?_, ?_⟩
    · (repeat (first | (refine ⟨_, rfl, ?_⟩) | (refine ⟨_, _, rfl, rfl, ?_⟩) | (refine ⟨_, _, _, _, rfl, rfl, SqL.of (by assumption), (by rfl), ?_⟩) | (refine ⟨_, _, _, _, rfl, rfl, (by assumption), (by rfl), ?_⟩) | (refine ⟨_, _, _, _, rfl, rfl, SqL.of (by assumption), (by assumption), ?_⟩) | (refine ⟨_, _, rfl, .inl (SqL.of (by assumption)), ?_⟩) | (refine ⟨_, _, _, _, _, rfl, (by assumption), (by assumption), (by assumption), (by rfl), ?_⟩) | (refine ⟨_, _, _, _, rfl, (by assumption), (by assumption), (by assumption), (Nat.le_of_ble_eq_true rfl), ?_⟩) | (refine And.intro (by first | assumption | rfl | (show (0:Int) < _; omega) | (show CDiv _ _; exact ⟨by omega, by omega⟩) | (show CMul _ _; first | exact .inl ⟨by omega, by omega⟩ | exact .inr ⟨by omega, by omega⟩) | (show CPow _ _; exact ⟨by omega, by omega, by omega⟩) | (show (_ : Nat) ≤ sizeLine; exact Nat.le_of_ble_eq_true rfl)) ?_) ))
      have k2 : Kp [] H1 H1 := Kp.refl _ _
      (intro e he; generalize eH : upd H1 e _ = H2; have k12 : Kp [] H1 H2 := eH ▸ Kp.new he; replace he := (congrFun eH.symm e).trans upd_same; clear eH; replace hx := k12.same _ _ hx; replace hc := StrL.same k12 hc; replace hy := StrL.same k12 hy; replace hl := LieAt.same k12 hl; replace hp := StrL.same k12 hp; replace k2 := k2.trans (k12.mono (fun _ z => nomatch z)); clear k12)
      refine ⟨_, _, _, rfl, rfl, SqL.of hy, SqL.of he, ?_⟩
      (repeat (first | (refine ⟨_, rfl, ?_⟩) | (refine ⟨_, _, rfl, rfl, ?_⟩) | (refine ⟨_, _, _, _, rfl, rfl, SqL.of (by assumption), (by rfl), ?_⟩) | (refine ⟨_, _, _, _, rfl, rfl, (by assumption), (by rfl), ?_⟩) | (refine ⟨_, _, _, _, rfl, rfl, SqL.of (by assumption), (by assumption), ?_⟩) | (refine ⟨_, _, rfl, .inl (SqL.of (by assumption)), ?_⟩) | (refine ⟨_, _, _, _, _, rfl, (by assumption), (by assumption), (by assumption), (by rfl), ?_⟩) | (refine ⟨_, _, _, _, rfl, (by assumption), (by assumption), (by assumption), (Nat.le_of_ble_eq_true rfl), ?_⟩) | (refine And.intro (by first | assumption | rfl | (show (0:Int) < _; omega) | (show CDiv _ _; exact ⟨by omega, by omega⟩) | (show CMul _ _; first | exact .inl ⟨by omega, by omega⟩ | exact .inr ⟨by omega, by omega⟩) | (show CPow _ _; exact ⟨by omega, by omega, by omega⟩) | (show (_ : Nat) ≤ sizeLine; exact Nat.le_of_ble_eq_true rfl)) ?_) ))
      refine ite2 (fun g => ?_) (fun g => ?_)
      · have gk : b.key ≠ [] := by intro z; rw [z] at g; simp at g
        (repeat (first | (refine ⟨_, rfl, ?_⟩) | (refine ⟨_, _, rfl, rfl, ?_⟩) | (refine ⟨_, _, _, _, rfl, rfl, SqL.of (by assumption), (by rfl), ?_⟩) | (refine ⟨_, _, _, _, rfl, rfl, (by assumption), (by rfl), ?_⟩) | (refine ⟨_, _, _, _, rfl, rfl, SqL.of (by assumption), (by assumption), ?_⟩) | (refine ⟨_, _, rfl, .inl (SqL.of (by assumption)), ?_⟩) | (refine ⟨_, _, _, _, _, rfl, (by assumption), (by assumption), (by assumption), (by rfl), ?_⟩) | (refine ⟨_, _, _, _, rfl, (by assumption), (by assumption), (by assumption), (Nat.le_of_ble_eq_true rfl), ?_⟩) | (refine And.intro (by first | assumption | rfl | (show (0:Int) < _; omega) | (show CDiv _ _; exact ⟨by omega, by omega⟩) | (show CMul _ _; first | exact .inl ⟨by omega, by omega⟩ | exact .inr ⟨by omega, by omega⟩) | (show CPow _ _; exact ⟨by omega, by omega, by omega⟩) | (show (_ : Nat) ≤ sizeLine; exact Nat.le_of_ble_eq_true rfl)) ?_) ))
        refine ⟨_, _, rfl, .inr (SqL.of hp), ?_⟩
        (repeat (first | (refine ⟨_, rfl, ?_⟩) | (refine ⟨_, _, rfl, rfl, ?_⟩) | (refine ⟨_, _, _, _, rfl, rfl, SqL.of (by assumption), (by rfl), ?_⟩) | (refine ⟨_, _, _, _, rfl, rfl, (by assumption), (by rfl), ?_⟩) | (refine ⟨_, _, _, _, rfl, rfl, SqL.of (by assumption), (by assumption), ?_⟩) | (refine ⟨_, _, rfl, .inl (SqL.of (by assumption)), ?_⟩) | (refine ⟨_, _, _, _, _, rfl, (by assumption), (by assumption), (by assumption), (by rfl), ?_⟩) | (refine ⟨_, _, _, _, rfl, (by assumption), (by assumption), (by assumption), (Nat.le_of_ble_eq_true rfl), ?_⟩) | (refine And.intro (by first | assumption | rfl | (show (0:Int) < _; omega) | (show CDiv _ _; exact ⟨by omega, by omega⟩) | (show CMul _ _; first | exact .inl ⟨by omega, by omega⟩ | exact .inr ⟨by omega, by omega⟩) | (show CPow _ _; exact ⟨by omega, by omega, by omega⟩) | (show (_ : Nat) ≤ sizeLine; exact Nat.le_of_ble_eq_true rfl)) ?_) ))
        refine ⟨_, _, rfl, .inr (SqL.of hy), ?_⟩
        refine ⟨by have := ok.cl; have := ok.kl; simp [w1]; exact Nat.le_trans (m := 30) (by omega) (by decide), ?_⟩
        intro q hq
        exact ⟨q, rfl, by rw [StrL, upd_same]; simp [kw, gk], k2.trans (Kp.new hq)⟩
      · have gk : b.key = [] := by cases h : b.key with | nil => rfl | cons _ _ => rw [h] at g; simp at g
        exact ⟨p, rfl, by rw [kw, if_pos gk, List.append_nil]; exact hp, k2⟩
    · rintro _ H2 ⟨q, rfl, hq, k2⟩
      replace kp := kp.trans k2
      replace hx := k2.same _ _ hx
      replace hl := hl.same k2
      clear hc hy hp k2
      (repeat (first | (refine ⟨_, rfl, ?_⟩) | (refine ⟨_, _, rfl, rfl, ?_⟩) | (refine ⟨_, _, _, _, rfl, rfl, SqL.of (by assumption), (by rfl), ?_⟩) | (refine ⟨_, _, _, _, rfl, rfl, (by assumption), (by rfl), ?_⟩) | (refine ⟨_, _, _, _, rfl, rfl, SqL.of (by assumption), (by assumption), ?_⟩) | (refine ⟨_, _, rfl, .inl (SqL.of (by assumption)), ?_⟩) | (refine ⟨_, _, _, _, _, rfl, (by assumption), (by assumption), (by assumption), (by rfl), ?_⟩) | (refine ⟨_, _, _, _, rfl, (by assumption), (by assumption), (by assumption), (Nat.le_of_ble_eq_true rfl), ?_⟩) | (refine And.intro (by first | assumption | rfl | (show (0:Int) < _; omega) | (show CDiv _ _; exact ⟨by omega, by omega⟩) | (show CMul _ _; first | exact .inl ⟨by omega, by omega⟩ | exact .inr ⟨by omega, by omega⟩) | (show CPow _ _; exact ⟨by omega, by omega, by omega⟩) | (show (_ : Nat) ≤ sizeLine; exact Nat.le_of_ble_eq_true rfl)) ?_) ))
      refine ⟨_, _, rfl, .inr (SqL.of hq), ?_⟩
      (repeat (first | (refine ⟨_, rfl, ?_⟩) | (refine ⟨_, _, rfl, rfl, ?_⟩) | (refine ⟨_, _, _, _, rfl, rfl, SqL.of (by assumption), (by rfl), ?_⟩) | (refine ⟨_, _, _, _, rfl, rfl, (by assumption), (by rfl), ?_⟩) | (refine ⟨_, _, _, _, rfl, rfl, SqL.of (by assumption), (by assumption), ?_⟩) | (refine ⟨_, _, rfl, .inl (SqL.of (by assumption)), ?_⟩) | (refine ⟨_, _, _, _, _, rfl, (by assumption), (by assumption), (by assumption), (by rfl), ?_⟩) | (refine ⟨_, _, _, _, rfl, (by assumption), (by assumption), (by assumption), (Nat.le_of_ble_eq_true rfl), ?_⟩) | (refine And.intro (by first | assumption | rfl | (show (0:Int) < _; omega) | (show CDiv _ _; exact ⟨by omega, by omega⟩) | (show CMul _ _; first | exact .inl ⟨by omega, by omega⟩ | exact .inr ⟨by omega, by omega⟩) | (show CPow _ _; exact ⟨by omega, by omega, by omega⟩) | (show (_ : Nat) ≤ sizeLine; exact Nat.le_of_ble_eq_true rfl)) ?_) ))
      have lq : (w1 b ++ kw b).length ≤ 20 := by
        have := ok.cl; have := ok.kl
        by_cases z : b.key = [] <;> simp [w1, kw, z] <;> omega
      rcases lieCase hl with ⟨a, wd, rfl, ha, lw⟩ | ⟨a, a2, r, cs, rfl, el, ha, ha2⟩
      · refine ⟨a, _, rfl, ha, fun _ => ?_, fun z => absurd ⟨rfl, rfl⟩ z⟩
        refine ⟨_, _, rfl, .inl ha, ?_⟩
        refine ⟨by simp at lq ⊢; exact Nat.le_trans (m := 30) (by omega) (by decide), ?_⟩
        (intro p hp; generalize eH : upd H2 p _ = H3; have k12 : Kp [] H2 H3 := eH ▸ Kp.new hp; replace hp := (congrFun eH.symm p).trans upd_same; clear eH; replace hx := k12.same _ _ hx; replace ha := SqT.same k12 ha; replace kp := kp.trans (k12.mono (fun _ z => nomatch z)); clear k12)
        replace hp : StrL H3 p (rowWords b) := by show H3 p = _; simpa [rowWords, lw] using hp
        refine ⟨fun σ' H' => σ' = [some (V.ref x), some (V.ref p)] ∧ H' = H3, ?_, ?_⟩
        · (repeat (first | (refine ⟨_, rfl, ?_⟩) | (refine ⟨_, _, rfl, rfl, ?_⟩) | (refine ⟨_, _, _, _, rfl, rfl, SqL.of (by assumption), (by rfl), ?_⟩) | (refine ⟨_, _, _, _, rfl, rfl, (by assumption), (by rfl), ?_⟩) | (refine ⟨_, _, _, _, rfl, rfl, SqL.of (by assumption), (by assumption), ?_⟩) | (refine ⟨_, _, rfl, .inl (SqL.of (by assumption)), ?_⟩) | (refine ⟨_, _, _, _, _, rfl, (by assumption), (by assumption), (by assumption), (by rfl), ?_⟩) | (refine ⟨_, _, _, _, rfl, (by assumption), (by assumption), (by assumption), (Nat.le_of_ble_eq_true rfl), ?_⟩) | (refine And.intro (by first | assumption | rfl | (show (0:Int) < _; omega) | (show CDiv _ _; exact ⟨by omega, by omega⟩) | (show CMul _ _; first | exact .inl ⟨by omega, by omega⟩ | exact .inr ⟨by omega, by omega⟩) | (show CPow _ _; exact ⟨by omega, by omega, by omega⟩) | (show (_ : Nat) ≤ sizeLine; exact Nat.le_of_ble_eq_true rfl)) ?_) ))
          refine ⟨_, _, rfl, .inr ha, ?_⟩
          (repeat (first | (refine ⟨_, rfl, ?_⟩) | (refine ⟨_, _, rfl, rfl, ?_⟩) | (refine ⟨_, _, _, _, rfl, rfl, SqL.of (by assumption), (by rfl), ?_⟩) | (refine ⟨_, _, _, _, rfl, rfl, (by assumption), (by rfl), ?_⟩) | (refine ⟨_, _, _, _, rfl, rfl, SqL.of (by assumption), (by assumption), ?_⟩) | (refine ⟨_, _, rfl, .inl (SqL.of (by assumption)), ?_⟩) | (refine ⟨_, _, _, _, _, rfl, (by assumption), (by assumption), (by assumption), (by rfl), ?_⟩) | (refine ⟨_, _, _, _, rfl, (by assumption), (by assumption), (by assumption), (Nat.le_of_ble_eq_true rfl), ?_⟩) | (refine And.intro (by first | assumption | rfl | (show (0:Int) < _; omega) | (show CDiv _ _; exact ⟨by omega, by omega⟩) | (show CMul _ _; first | exact .inl ⟨by omega, by omega⟩ | exact .inr ⟨by omega, by omega⟩) | (show CPow _ _; exact ⟨by omega, by omega, by omega⟩) | (show (_ : Nat) ≤ sizeLine; exact Nat.le_of_ble_eq_true rfl)) ?_) ))
          rfl
        · rintro _ H4 ⟨rfl, rfl⟩
          (repeat (first | (refine ⟨_, rfl, ?_⟩) | (refine ⟨_, _, rfl, rfl, ?_⟩) | (refine ⟨_, _, _, _, rfl, rfl, SqL.of (by assumption), (by rfl), ?_⟩) | (refine ⟨_, _, _, _, rfl, rfl, (by assumption), (by rfl), ?_⟩) | (refine ⟨_, _, _, _, rfl, rfl, SqL.of (by assumption), (by assumption), ?_⟩) | (refine ⟨_, _, rfl, .inl (SqL.of (by assumption)), ?_⟩) | (refine ⟨_, _, _, _, _, rfl, (by assumption), (by assumption), (by assumption), (by rfl), ?_⟩) | (refine ⟨_, _, _, _, rfl, (by assumption), (by assumption), (by assumption), (Nat.le_of_ble_eq_true rfl), ?_⟩) | (refine And.intro (by first | assumption | rfl | (show (0:Int) < _; omega) | (show CDiv _ _; exact ⟨by omega, by omega⟩) | (show CMul _ _; first | exact .inl ⟨by omega, by omega⟩ | exact .inr ⟨by omega, by omega⟩) | (show CPow _ _; exact ⟨by omega, by omega, by omega⟩) | (show (_ : Nat) ≤ sizeLine; exact Nat.le_of_ble_eq_true rfl)) ?_) ))
          refine ⟨⟨_, rfl⟩, ?_⟩
          (repeat (first | (refine ⟨_, rfl, ?_⟩) | (refine ⟨_, _, rfl, rfl, ?_⟩) | (refine ⟨_, _, _, _, rfl, rfl, SqL.of (by assumption), (by rfl), ?_⟩) | (refine ⟨_, _, _, _, rfl, rfl, (by assumption), (by rfl), ?_⟩) | (refine ⟨_, _, _, _, rfl, rfl, SqL.of (by assumption), (by assumption), ?_⟩) | (refine ⟨_, _, rfl, .inl (SqL.of (by assumption)), ?_⟩) | (refine ⟨_, _, _, _, _, rfl, (by assumption), (by assumption), (by assumption), (by rfl), ?_⟩) | (refine ⟨_, _, _, _, rfl, (by assumption), (by assumption), (by assumption), (Nat.le_of_ble_eq_true rfl), ?_⟩) | (refine And.intro (by first | assumption | rfl | (show (0:Int) < _; omega) | (show CDiv _ _; exact ⟨by omega, by omega⟩) | (show CMul _ _; first | exact .inl ⟨by omega, by omega⟩ | exact .inr ⟨by omega, by omega⟩) | (show CPow _ _; exact ⟨by omega, by omega, by omega⟩) | (show (_ : Nat) ≤ sizeLine; exact Nat.le_of_ble_eq_true rfl)) ?_) ))
          exact ⟨_, _, _, rfl, rfl, .inl (SqL.of hp), row_sum ok, k _ kp⟩
      · have le3 := ok.lie
        rw [el] at le3
        replace le3 := le3.2.1
        refine ⟨a, _, rfl, ha, fun z => absurd z.2 (by show ¬ (2 : Nat) = 3; decide), fun _ => ?_⟩
        (intro t ht; generalize eH : upd H2 t _ = H3; have k12 : Kp [] H2 H3 := eH ▸ Kp.new ht; replace ht := (congrFun eH.symm t).trans upd_same; clear eH; replace hx := k12.same _ _ hx; replace ha := SqT.same k12 ha; replace ha2 := SqT.same k12 ha2; replace hq := StrL.same k12 hq; replace kp := kp.trans (k12.mono (fun _ z => nomatch z)); clear k12)
        refine ⟨_, _, rfl, .inl (SqT.of ht), ?_⟩
        have e2 : cutV [V.str "dealt", V.str r, V.ref a2] none (some 2) = [V.str "dealt", V.str r] := rfl
        rw [e2]
        refine ⟨by simp at lq ⊢; exact Nat.le_trans (m := 30) (by omega) (by decide), ?_⟩
        (intro u hu; generalize eH : upd H3 u _ = H4; have k12 : Kp [] H3 H4 := eH ▸ Kp.new hu; replace hu := (congrFun eH.symm u).trans upd_same; clear eH; replace hx := k12.same _ _ hx; replace ha := SqT.same k12 ha; replace ha2 := SqT.same k12 ha2; replace kp := kp.trans (k12.mono (fun _ z => nomatch z)); clear k12)
        replace hu : StrL H4 u (w1 b ++ kw b ++ [("dealt" : Str), r]) := by show H4 u = _; simpa using hu
        refine ⟨fun σ' H' => ∃ p, σ' = [some (V.ref x), some (V.ref p)] ∧ Kp [] H H' ∧ StrL H' p (rowWords b), ?_, ?_⟩
        · (repeat (first | (refine ⟨_, rfl, ?_⟩) | (refine ⟨_, _, rfl, rfl, ?_⟩) | (refine ⟨_, _, _, _, rfl, rfl, SqL.of (by assumption), (by rfl), ?_⟩) | (refine ⟨_, _, _, _, rfl, rfl, (by assumption), (by rfl), ?_⟩) | (refine ⟨_, _, _, _, rfl, rfl, SqL.of (by assumption), (by assumption), ?_⟩) | (refine ⟨_, _, rfl, .inl (SqL.of (by assumption)), ?_⟩) | (refine ⟨_, _, _, _, _, rfl, (by assumption), (by assumption), (by assumption), (by rfl), ?_⟩) | (refine ⟨_, _, _, _, rfl, (by assumption), (by assumption), (by assumption), (Nat.le_of_ble_eq_true rfl), ?_⟩) | (refine And.intro (by first | assumption | rfl | (show (0:Int) < _; omega) | (show CDiv _ _; exact ⟨by omega, by omega⟩) | (show CMul _ _; first | exact .inl ⟨by omega, by omega⟩ | exact .inr ⟨by omega, by omega⟩) | (show CPow _ _; exact ⟨by omega, by omega, by omega⟩) | (show (_ : Nat) ≤ sizeLine; exact Nat.le_of_ble_eq_true rfl)) ?_) ))
          refine ⟨_, _, rfl, .inr ha, ?_⟩
          (repeat (first | (refine ⟨_, rfl, ?_⟩) | (refine ⟨_, _, rfl, rfl, ?_⟩) | (refine ⟨_, _, _, _, rfl, rfl, SqL.of (by assumption), (by rfl), ?_⟩) | (refine ⟨_, _, _, _, rfl, rfl, (by assumption), (by rfl), ?_⟩) | (refine ⟨_, _, _, _, rfl, rfl, SqL.of (by assumption), (by assumption), ?_⟩) | (refine ⟨_, _, rfl, .inl (SqL.of (by assumption)), ?_⟩) | (refine ⟨_, _, _, _, _, rfl, (by assumption), (by assumption), (by assumption), (by rfl), ?_⟩) | (refine ⟨_, _, _, _, rfl, (by assumption), (by assumption), (by assumption), (Nat.le_of_ble_eq_true rfl), ?_⟩) | (refine And.intro (by first | assumption | rfl | (show (0:Int) < _; omega) | (show CDiv _ _; exact ⟨by omega, by omega⟩) | (show CMul _ _; first | exact .inl ⟨by omega, by omega⟩ | exact .inr ⟨by omega, by omega⟩) | (show CPow _ _; exact ⟨by omega, by omega, by omega⟩) | (show (_ : Nat) ≤ sizeLine; exact Nat.le_of_ble_eq_true rfl)) ?_) ))
          refine ⟨_, _, rfl, .inr (SqL.of hu), ?_⟩
          (repeat (first | (refine ⟨_, rfl, ?_⟩) | (refine ⟨_, _, rfl, rfl, ?_⟩) | (refine ⟨_, _, _, _, rfl, rfl, SqL.of (by assumption), (by rfl), ?_⟩) | (refine ⟨_, _, _, _, rfl, rfl, (by assumption), (by rfl), ?_⟩) | (refine ⟨_, _, _, _, rfl, rfl, SqL.of (by assumption), (by assumption), ?_⟩) | (refine ⟨_, _, rfl, .inl (SqL.of (by assumption)), ?_⟩) | (refine ⟨_, _, _, _, _, rfl, (by assumption), (by assumption), (by assumption), (by rfl), ?_⟩) | (refine ⟨_, _, _, _, rfl, (by assumption), (by assumption), (by assumption), (Nat.le_of_ble_eq_true rfl), ?_⟩) | (refine And.intro (by first | assumption | rfl | (show (0:Int) < _; omega) | (show CDiv _ _; exact ⟨by omega, by omega⟩) | (show CMul _ _; first | exact .inl ⟨by omega, by omega⟩ | exact .inr ⟨by omega, by omega⟩) | (show CPow _ _; exact ⟨by omega, by omega, by omega⟩) | (show (_ : Nat) ≤ sizeLine; exact Nat.le_of_ble_eq_true rfl)) ?_) ))
          refine ⟨_, _, rfl, .inl ha2, ?_⟩
          refine ⟨by simp at lq ⊢; exact Nat.le_trans (m := 30) (by omega) (by decide), ?_⟩
          intro p hp
          exact ⟨p, rfl, kp.trans (Kp.new hp), by rw [StrL, upd_same]; simp [rowWords, el, Lw]⟩
        · rintro _ H5 ⟨p, rfl, k5, h5⟩
          (repeat (first | (refine ⟨_, rfl, ?_⟩) | (refine ⟨_, _, rfl, rfl, ?_⟩) | (refine ⟨_, _, _, _, rfl, rfl, SqL.of (by assumption), (by rfl), ?_⟩) | (refine ⟨_, _, _, _, rfl, rfl, (by assumption), (by rfl), ?_⟩) | (refine ⟨_, _, _, _, rfl, rfl, SqL.of (by assumption), (by assumption), ?_⟩) | (refine ⟨_, _, rfl, .inl (SqL.of (by assumption)), ?_⟩) | (refine ⟨_, _, _, _, _, rfl, (by assumption), (by assumption), (by assumption), (by rfl), ?_⟩) | (refine ⟨_, _, _, _, rfl, (by assumption), (by assumption), (by assumption), (Nat.le_of_ble_eq_true rfl), ?_⟩) | (refine And.intro (by first | assumption | rfl | (show (0:Int) < _; omega) | (show CDiv _ _; exact ⟨by omega, by omega⟩) | (show CMul _ _; first | exact .inl ⟨by omega, by omega⟩ | exact .inr ⟨by omega, by omega⟩) | (show CPow _ _; exact ⟨by omega, by omega, by omega⟩) | (show (_ : Nat) ≤ sizeLine; exact Nat.le_of_ble_eq_true rfl)) ?_) ))
          refine ⟨⟨_, rfl⟩, ?_⟩
          (repeat (first | (refine ⟨_, rfl, ?_⟩) | (refine ⟨_, _, rfl, rfl, ?_⟩) | (refine ⟨_, _, _, _, rfl, rfl, SqL.of (by assumption), (by rfl), ?_⟩) | (refine ⟨_, _, _, _, rfl, rfl, (by assumption), (by rfl), ?_⟩) | (refine ⟨_, _, _, _, rfl, rfl, SqL.of (by assumption), (by assumption), ?_⟩) | (refine ⟨_, _, rfl, .inl (SqL.of (by assumption)), ?_⟩) | (refine ⟨_, _, _, _, _, rfl, (by assumption), (by assumption), (by assumption), (by rfl), ?_⟩) | (refine ⟨_, _, _, _, rfl, (by assumption), (by assumption), (by assumption), (Nat.le_of_ble_eq_true rfl), ?_⟩) | (refine And.intro (by first | assumption | rfl | (show (0:Int) < _; omega) | (show CDiv _ _; exact ⟨by omega, by omega⟩) | (show CMul _ _; first | exact .inl ⟨by omega, by omega⟩ | exact .inr ⟨by omega, by omega⟩) | (show CPow _ _; exact ⟨by omega, by omega, by omega⟩) | (show (_ : Nat) ≤ sizeLine; exact Nat.le_of_ble_eq_true rfl)) ?_) ))
          exact ⟨_, _, _, rfl, rfl, .inl (SqL.of h5), row_sum ok, k _ k5⟩
end
end K14

namespace K14
open PySem L2 GB G1 Tb
theorem TabF.ty {K : PySem.W.Frag} {C : Addr} (F : TabF K C) {H : Hp} {v : V} {b : Bare} (h : TabAt K C H v b) : TyX K H v (.ref C) := by
  obtain ⟨p, dx, c, k, l, rfl, h1, _⟩ := h
  exact .base (.ins h1 F.cls F.ha F.hn F.htk F.hm)
def spEq (K : PySem.W.Frag) (C : Addr) : Sp := fun vs H Q _ => ∃ (v u : V) (b : Bare), vs = [v, u] ∧ TabAt K C H v b ∧ BOk b ∧
  ((∃ b', TabAt K C H u b' ∧ BOk b' ∧ ∀ H', Kp [] H H' → Q (.bl (decide (row b = row b'))) H') ∨ (∃ t, TyX K H u t ∧ PySem.W.kitOne K t (.ref C) = some false ∧ Q (.bl false) H))
def spWithLie (K : PySem.W.Frag) (C : Addr) : Sp := fun vs H Q _ => ∃ (v u : V) (b : Bare) (l : Lie), vs = [v, u] ∧ TabAt K C H v b ∧ LieAt K H u l ∧ BOk { b with lie := l } ∧ ∀ r H', Kp [] H H' → TabAt K C H' r { b with lie := l } → Q r H'
def spWithKey (K : PySem.W.Frag) (C : Addr) : Sp := fun vs H Q _ => ∃ (v : V) (a : Addr) (b : Bare) (ks : List Str), vs = [v, .ref a] ∧ TabAt K C H v b ∧ SqT K H a (ks.map V.str) ∧ BOk { b with key := ks } ∧ ∀ r H', Kp [] H H' → TabAt K C H' r { b with key := ks } → Q r H'
section
variable {P : Program} {w : World} {K : PySem.W.Frag} {mg : Str → Option Value} {base : Heap} {aW aP C dk dl : Addr}
theorem mkTab {H : Hp} {c k : Addr} {v : V} {b : Bare} {R : V → Hp → Prop} (hc : StrL H c b.cols) (hk : SqA K H k (b.key.map V.str)) (hv : LieAt K H v b.lie) (ok : BOk b) (q : ∀ r H', Kp [] H H' → TabAt K C H' r b → R r H') :
    ∀ x dx, H x = none → H dx = none → dx ≠ x → spInit K C [.ref x, .str b.name, .ref c, .ref k, v] (upd (upd H dx (.own x)) x (.ins C dx [])) (fun v H3 => v = .non ∧ R (.ref x) H3) E0 := by
  intro x dx n1 n2 ne
  have k12 : Kp [] H (upd (upd H dx (.own x)) x (.ins C dx [])) := Kp.made n1 n2
  exact ⟨x, dx, c, k, v, b, rfl, upd_same, StrL.same k12 hc, hk.same k12, hv.same k12, ok, fun H' t kx => ⟨rfl, q _ _ (Kp.newOf kx k12 n1) t.at⟩⟩
theorem mLie (D : Mth K C "with_lie" "Table.with_lie" s_Table_with_lie) (T : Txt K mg aW aP C) (F : TabF K C) (kAB : KMk P w K mg base 3 "Table" C 2 ["key", "lies"] (fun vs zs => vs ++ zs) (spInit K C)) : Met P w K mg base 5 C "with_lie" (spWithLie K C) := by
  refine met D sc_Table_with_lie (fun _ _ _ _ _ _ us hl => match us, hl with | [_, _], _ => rfl) (fun vs H Q E h => ?_) (fun f cdv A outer s H vs Q E hr h => ?_)
  · obtain ⟨v, u, b, l, rfl, _⟩ := h; rfl
  · obtain ⟨v, u, b, l, rfl, ht, hl, ok, q⟩ := h
    refine ⟨_, (pss_one (ps_ret (pe_kmk kAB hr (by decide) (by rfl) (pa_cons (pe_fld (pv 0) rfl) (pa_cons (pe_fld (pv 0) rfl) pa_nil)) (pk_cons (pe_fld (pv 0) rfl) (pk_cons (pv 1) pk_nil))))), ?_⟩
    show (_ : TS) _ [some v, some u] H
    obtain ⟨x, dx, c, y, l0, rfl, hx, hc, hy, _⟩ := ht
    have f0 := F.cls
    have f1 := F.n1
    have f2 := F.n2
    have f3 := F.n3
    have kp : Kp [] H H := Kp.refl _ _
    (repeat (first | (refine ⟨_, rfl, ?_⟩) | (refine ⟨_, _, rfl, rfl, ?_⟩) | (refine ⟨_, _, _, _, rfl, rfl, SqL.of (by assumption), (by rfl), ?_⟩) | (refine ⟨_, _, _, _, rfl, rfl, (by assumption), (by rfl), ?_⟩) | (refine ⟨_, _, _, _, rfl, rfl, SqL.of (by assumption), (by assumption), ?_⟩) | (refine ⟨_, _, rfl, .inl (SqL.of (by assumption)), ?_⟩) | (refine ⟨_, _, _, _, _, rfl, (by assumption), (by assumption), (by assumption), (by rfl), ?_⟩) | (refine ⟨_, _, _, _, rfl, (by assumption), (by assumption), (by assumption), (Nat.le_of_ble_eq_true rfl), ?_⟩) | (refine And.intro (by first | assumption | rfl | (show (0:Int) < _; omega) | (show CDiv _ _; exact ⟨by omega, by omega⟩) | (show CMul _ _; first | exact .inl ⟨by omega, by omega⟩ | exact .inr ⟨by omega, by omega⟩) | (show CPow _ _; exact ⟨by omega, by omega, by omega⟩) | (show (_ : Nat) ≤ sizeLine; exact Nat.le_of_ble_eq_true rfl)) ?_) ))
    exact mkTab (b := { b with lie := l }) hc (.inl (SqL.of hy)) hl ok q
theorem mKey (D : Mth K C "with_key" "Table.with_key" s_Table_with_key) (T : Txt K mg aW aP C) (F : TabF K C) (kAB : KMk P w K mg base 3 "Table" C 2 ["key", "lies"] (fun vs zs => vs ++ zs) (spInit K C)) : MetR P w K mg base 5 C "with_key" (spStar 1 (spWithKey K C)) := by
  refine metR (ps := ["self"]) (pv := "columns") D sc_Table_with_key (fun _ _ _ _ _ _ us rest hl => match us, hl, rest with | [_], _, [] => rfl | [_], _, _ :: _ => rfl) (fun f cdv A outer s H vs Q E hr h => ?_)
  obtain ⟨v, a, b, ks, rfl, ht, ha, ok, q⟩ := h
  refine ⟨_, (pss_one (ps_ret (pe_kmk kAB hr (by decide) (by rfl) (pa_cons (pe_fld (pv 0) rfl) (pa_cons (pe_fld (pv 0) rfl) pa_nil)) (pk_cons (pv 1) (pk_cons (pe_fld (pv 0) rfl) pk_nil))))), ?_⟩
  show (_ : TS) _ [some v, some (.ref a)] H
  obtain ⟨x, dx, c, y, l0, rfl, hx, hc, hy, hl⟩ := ht
  have f0 := F.cls
  have f1 := F.n1
  have f2 := F.n2
  have f4 := F.n4
  (repeat (first | (refine ⟨_, rfl, ?_⟩) | (refine ⟨_, _, rfl, rfl, ?_⟩) | (refine ⟨_, _, _, _, rfl, rfl, SqL.of (by assumption), (by rfl), ?_⟩) | (refine ⟨_, _, _, _, rfl, rfl, (by assumption), (by rfl), ?_⟩) | (refine ⟨_, _, _, _, rfl, rfl, SqL.of (by assumption), (by assumption), ?_⟩) | (refine ⟨_, _, rfl, .inl (SqL.of (by assumption)), ?_⟩) | (refine ⟨_, _, _, _, _, rfl, (by assumption), (by assumption), (by assumption), (by rfl), ?_⟩) | (refine ⟨_, _, _, _, rfl, (by assumption), (by assumption), (by assumption), (Nat.le_of_ble_eq_true rfl), ?_⟩) | (refine And.intro (by first | assumption | rfl | (show (0:Int) < _; omega) | (show CDiv _ _; exact ⟨by omega, by omega⟩) | (show CMul _ _; first | exact .inl ⟨by omega, by omega⟩ | exact .inr ⟨by omega, by omega⟩) | (show CPow _ _; exact ⟨by omega, by omega, by omega⟩) | (show (_ : Nat) ≤ sizeLine; exact Nat.le_of_ble_eq_true rfl)) ?_) ))
  exact mkTab (b := { b with key := ks }) hc (.inr ha) hl ok q
theorem mEq (D : Mth K C "__eq__" "Table.__eq__" s_Table_eq) (T : Txt K mg aW aP C) (F : TabF K C) (mStr : Met P w K mg base 1 C "__str__" (spStr K C)) : Met P w K mg base 4 C "__eq__" (spEq K C) := by
  refine met D sc_Table_eq (fun _ _ _ _ _ _ us hl => match us, hl with | [_, _], _ => rfl) (fun vs H Q E h => ?_) (fun f cdv A outer s H vs Q E hr h => ?_)
  · obtain ⟨v, u, b, rfl, _⟩ := h; rfl
  · obtain ⟨v, u, b, rfl, ht, ok, h⟩ := h
    refine ⟨_, (pss_one (ps_ret (pe_and (pe_callB (call_isO C) (by rfl) T.n_isinstance (by decide +kernel) (pa_cons (pv 1) (pa_cons (pe_glob (v := .ref _) rfl T.k_Table rfl) pa_nil))) (pe_one (pe_cmpR op_eq (pe_callTy (call_strO mStr hr (by decide)) (by rfl) T.n_str (by decide +kernel) (pa_cons (pv 0) pa_nil)) (pe_callTy (call_strO mStr hr (by decide)) (by rfl) T.n_str (by decide +kernel) (pa_cons (pv 1) pa_nil)) (nomark _)))))), ?_⟩
    show (_ : TS) _ [some v, some u] H
    (repeat (first | (refine ⟨_, rfl, ?_⟩) | (refine ⟨_, _, rfl, rfl, ?_⟩) | (refine ⟨_, _, _, _, rfl, rfl, SqL.of (by assumption), (by rfl), ?_⟩) | (refine ⟨_, _, _, _, rfl, rfl, (by assumption), (by rfl), ?_⟩) | (refine ⟨_, _, _, _, rfl, rfl, SqL.of (by assumption), (by assumption), ?_⟩) | (refine ⟨_, _, rfl, .inl (SqL.of (by assumption)), ?_⟩) | (refine ⟨_, _, _, _, _, rfl, (by assumption), (by assumption), (by assumption), (by rfl), ?_⟩) | (refine ⟨_, _, _, _, rfl, (by assumption), (by assumption), (by assumption), (Nat.le_of_ble_eq_true rfl), ?_⟩) | (refine And.intro (by first | assumption | rfl | (show (0:Int) < _; omega) | (show CDiv _ _; exact ⟨by omega, by omega⟩) | (show CMul _ _; first | exact .inl ⟨by omega, by omega⟩ | exact .inr ⟨by omega, by omega⟩) | (show CPow _ _; exact ⟨by omega, by omega, by omega⟩) | (show (_ : Nat) ≤ sizeLine; exact Nat.le_of_ble_eq_true rfl)) ?_) ))
    rcases h with ⟨b', hu, ok', q⟩ | ⟨t, ty, kt, q⟩
    · refine ⟨_, _, true, rfl, F.ty hu, F.tSelf, ?_⟩
      (repeat (first | (refine ⟨_, rfl, ?_⟩) | (refine ⟨_, _, rfl, rfl, ?_⟩) | (refine ⟨_, _, _, _, rfl, rfl, SqL.of (by assumption), (by rfl), ?_⟩) | (refine ⟨_, _, _, _, rfl, rfl, (by assumption), (by rfl), ?_⟩) | (refine ⟨_, _, _, _, rfl, rfl, SqL.of (by assumption), (by assumption), ?_⟩) | (refine ⟨_, _, rfl, .inl (SqL.of (by assumption)), ?_⟩) | (refine ⟨_, _, _, _, _, rfl, (by assumption), (by assumption), (by assumption), (by rfl), ?_⟩) | (refine ⟨_, _, _, _, rfl, (by assumption), (by assumption), (by assumption), (Nat.le_of_ble_eq_true rfl), ?_⟩) | (refine And.intro (by first | assumption | rfl | (show (0:Int) < _; omega) | (show CDiv _ _; exact ⟨by omega, by omega⟩) | (show CMul _ _; first | exact .inl ⟨by omega, by omega⟩ | exact .inr ⟨by omega, by omega⟩) | (show CPow _ _; exact ⟨by omega, by omega, by omega⟩) | (show (_ : Nat) ≤ sizeLine; exact Nat.le_of_ble_eq_true rfl)) ?_) ))
      have ht0 := ht
      have hu0 := hu
      obtain ⟨x, dx, c, y, l0, rfl, hx, hc, hy, hl⟩ := ht
      obtain ⟨x', dx', c', y', l0', rfl, hx', hc', hy', hl'⟩ := hu
      refine ⟨x, dx, _, rfl, hx, _, b, rfl, ht0, ok, fun H1 k1 => ?_⟩
      refine ⟨_, rfl, ?_⟩
      (repeat (first | (refine ⟨_, rfl, ?_⟩) | (refine ⟨_, _, rfl, rfl, ?_⟩) | (refine ⟨_, _, _, _, rfl, rfl, SqL.of (by assumption), (by rfl), ?_⟩) | (refine ⟨_, _, _, _, rfl, rfl, (by assumption), (by rfl), ?_⟩) | (refine ⟨_, _, _, _, rfl, rfl, SqL.of (by assumption), (by assumption), ?_⟩) | (refine ⟨_, _, rfl, .inl (SqL.of (by assumption)), ?_⟩) | (refine ⟨_, _, _, _, _, rfl, (by assumption), (by assumption), (by assumption), (by rfl), ?_⟩) | (refine ⟨_, _, _, _, rfl, (by assumption), (by assumption), (by assumption), (Nat.le_of_ble_eq_true rfl), ?_⟩) | (refine And.intro (by first | assumption | rfl | (show (0:Int) < _; omega) | (show CDiv _ _; exact ⟨by omega, by omega⟩) | (show CMul _ _; first | exact .inl ⟨by omega, by omega⟩ | exact .inr ⟨by omega, by omega⟩) | (show CPow _ _; exact ⟨by omega, by omega, by omega⟩) | (show (_ : Nat) ≤ sizeLine; exact Nat.le_of_ble_eq_true rfl)) ?_) ))
      refine ⟨x', dx', _, rfl, k1.same _ _ hx', _, b', rfl, hu0.same k1, ok', fun H2 k2 => ?_⟩
      refine ⟨_, rfl, ?_⟩
      (repeat (first | (refine ⟨_, rfl, ?_⟩) | (refine ⟨_, _, rfl, rfl, ?_⟩) | (refine ⟨_, _, _, _, rfl, rfl, SqL.of (by assumption), (by rfl), ?_⟩) | (refine ⟨_, _, _, _, rfl, rfl, (by assumption), (by rfl), ?_⟩) | (refine ⟨_, _, _, _, rfl, rfl, SqL.of (by assumption), (by assumption), ?_⟩) | (refine ⟨_, _, rfl, .inl (SqL.of (by assumption)), ?_⟩) | (refine ⟨_, _, _, _, _, rfl, (by assumption), (by assumption), (by assumption), (by rfl), ?_⟩) | (refine ⟨_, _, _, _, rfl, (by assumption), (by assumption), (by assumption), (Nat.le_of_ble_eq_true rfl), ?_⟩) | (refine And.intro (by first | assumption | rfl | (show (0:Int) < _; omega) | (show CDiv _ _; exact ⟨by omega, by omega⟩) | (show CMul _ _; first | exact .inl ⟨by omega, by omega⟩ | exact .inr ⟨by omega, by omega⟩) | (show CPow _ _; exact ⟨by omega, by omega, by omega⟩) | (show (_ : Nat) ≤ sizeLine; exact Nat.le_of_ble_eq_true rfl)) ?_) ))
      have e : decide (V.str (row b) = V.str (row b')) = decide (row b = row b') := by by_cases h : row b = row b' <;> simp [h]
      rw [e]
      exact q _ (k1.trans k2)
    · refine ⟨_, t, false, rfl, ty, kt, ?_⟩
      (repeat (first | (refine ⟨_, rfl, ?_⟩) | (refine ⟨_, _, rfl, rfl, ?_⟩) | (refine ⟨_, _, _, _, rfl, rfl, SqL.of (by assumption), (by rfl), ?_⟩) | (refine ⟨_, _, _, _, rfl, rfl, (by assumption), (by rfl), ?_⟩) | (refine ⟨_, _, _, _, rfl, rfl, SqL.of (by assumption), (by assumption), ?_⟩) | (refine ⟨_, _, rfl, .inl (SqL.of (by assumption)), ?_⟩) | (refine ⟨_, _, _, _, _, rfl, (by assumption), (by assumption), (by assumption), (by rfl), ?_⟩) | (refine ⟨_, _, _, _, rfl, (by assumption), (by assumption), (by assumption), (Nat.le_of_ble_eq_true rfl), ?_⟩) | (refine And.intro (by first | assumption | rfl | (show (0:Int) < _; omega) | (show CDiv _ _; exact ⟨by omega, by omega⟩) | (show CMul _ _; first | exact .inl ⟨by omega, by omega⟩ | exact .inr ⟨by omega, by omega⟩) | (show CPow _ _; exact ⟨by omega, by omega, by omega⟩) | (show (_ : Nat) ≤ sizeLine; exact Nat.le_of_ble_eq_true rfl)) ?_) ))
      exact q
end
end K14

namespace K14
open PySem L2 GB G1 Tb
theorem mix_pow {l i : Int} (l0 : 0 ≤ l) (l1 : l < 2147483563) (i0 : 0 ≤ i) (i1 : i ≤ 100000) : CPow (l * (4 * i + 21) + 10007 * i * i + 31) 3 := by
  have a1 : l * (4 * i + 21) ≤ 2147483563 * 400021 := Int.mul_le_mul (by omega) (by omega) (by omega) (by omega)
  have a0 : 0 ≤ l * (4 * i + 21) := Int.mul_nonneg l0 (by omega)
  have b1 : 10007 * i * i ≤ 1000700000 * 100000 := Int.mul_le_mul (by omega) i1 i0 (by omega)
  have b0 : 0 ≤ 10007 * i * i := Int.mul_nonneg (by omega) i0
  exact ⟨by omega, by omega, by omega⟩
section
variable {P : Program} {w : World} {K : PySem.W.Frag} {mg : Str → Option Value} {base : Heap} {aW aP C dk dl : Addr}
theorem cDraw (D : Dfn K mg "_law_draw" s_law_draw) (T : Txt K mg aW aP C) : Cal P w K mg base 1 "_law_draw" spDraw := by
  refine cal D sc_law_draw (fun _ _ _ _ _ _ us hl => match us, hl with | [_, _], _ => rfl) (fun vs H Q E h => ?_) (fun f cdv A outer s H vs Q E hr h => ?_)
  · obtain ⟨p, c, m, n, rfl, _⟩ := h; rfl
  · obtain ⟨p, c, m, n, rfl, ⟨cs, i, r, hp, hc, i0, i1, r0⟩, m0, m1, hn, k⟩ := h
    refine ⟨_, (pss_cons (ps_if (pt_cmpR op_gt (pe_ix ix_list (pv 0) pe_int (fun _ _ => rfl)) pe_int (nomark _)) (pss_cons (ps_set (i := 2) sc_law_draw.nd rfl (Or.inl rfl) (pe_op op_mod (pe_callTy call_int_i (by rfl) T.n_int (by decide +kernel) (pa_cons (pe_ix ix_list (pv 0) pe_int (fun _ _ => rfl)) pa_nil)) (pv 1)))
      (pss_cons (ps_asg (pe_op op_fdiv (pe_callTy call_int_i (by rfl) T.n_int (by decide +kernel) (pa_cons (pe_ix ix_list (pv 0) pe_int (fun _ _ => rfl)) pa_nil)) (pv 1)) (pg_sub (pv 0) pe_int set_list))
      (pss_one (ps_ret (pv 2))))) pss_nil)
      (pss_cons (ps_set (i := 3) sc_law_draw.nd rfl (Or.inl rfl) (pe_ix ix_list (pv 0) pe_int (fun _ _ => rfl)))
      (pss_cons (ps_asg (pe_op op_add (pv 3) pe_int) (pg_sub (pv 0) pe_int set_list))
      (pss_cons (ps_set (i := 4) sc_law_draw.nd rfl (Or.inl rfl) (pe_op op_add (pe_op op_mul pe_int (pv 3)) pe_int))
      (pss_cut (ps_if (pt_cmpR (op_neNil hr) (pe_ix ix_list (pv 0) pe_int (fun _ _ => rfl)) (pe_lst pa_nil) (nomark _)) (pss_one (ps_set (i := 4) sc_law_draw.nd rfl (Or.inl rfl) (pe_ix ix_list (pe_ix ix_list (pv 0) pe_int (fun _ _ => rfl)) (pe_op op_mod (pe_callTy call_int_i (by rfl) T.n_int (by decide +kernel) (pa_cons (pv 3) pa_nil)) (pe_callB call_len_seq (by rfl) T.n_len (by decide +kernel) (pa_cons (pe_ix ix_list (pv 0) pe_int (fun _ _ => rfl)) pa_nil))) (fun _ _ => rfl)))) pss_nil)
      (pss_cut (ps_if (PW.pt (pw_and (pt_cmpR op_lt (pv 3) (pe_callB call_len_seq (by rfl) T.n_len (by decide +kernel) (pa_cons (pe_ix ix_list (pv 0) pe_int (fun _ _ => rfl)) pa_nil)) (nomark _)) (pw_and1 (pt_cmpR op_ge (pe_callB call_abs (by rfl) T.n_abs (by decide +kernel) (pa_cons (pv 4) pa_nil)) (pe_op op_pow pe_int pe_int) (nomark _))))) (pss_cons (ps_set (i := 5) sc_law_draw.nd rfl (Or.inl rfl) (pe_op op_add (pe_op op_mul pe_int (pe_callB call_abs (by rfl) T.n_abs (by decide +kernel) (pa_cons (pv 4) pa_nil))) (pe_callTy call_int_b (by rfl) T.n_int (by decide +kernel) (pa_cons (pe_cmpR op_lt (pv 4) pe_int (nomark _)) pa_nil))))
      (pss_cons (ps_asg (pe_op op_fdiv (pe_callTy call_int_i (by rfl) T.n_int (by decide +kernel) (pa_cons (pv 5) pa_nil)) (pv 1)) (pg_sub (pv 0) pe_int set_list))
      (pss_one (ps_ret (pe_op op_mod (pe_callTy call_int_i (by rfl) T.n_int (by decide +kernel) (pa_cons (pv 5) pa_nil)) (pv 1)))))) pss_nil)
      (pss_cons (ps_set (i := 6) sc_law_draw.nd rfl (Or.inl rfl) (pe_op op_mod (pe_op op_pow (pe_callTy call_int_i (by rfl) T.n_int (by decide +kernel) (pa_cons (pe_op op_add (pe_op op_add (pe_op op_mod (pe_callTy call_int_i (by rfl) T.n_int (by decide +kernel) (pa_cons (pv 4) pa_nil)) pe_int) (pe_op op_mul pe_int (pv 3))) pe_int) pa_nil)) pe_int) pe_int))
      (pss_cons (ps_set (i := 6) sc_law_draw.nd rfl (Or.inl rfl) (pe_op op_mod (pe_op op_pow (pe_callTy call_int_i (by rfl) T.n_int (by decide +kernel) (pa_cons (pe_op op_add (pe_op op_add (pe_op op_mul (pv 6) (pe_op op_add (pe_op op_mul pe_int (pv 3)) pe_int)) (pe_op op_mul (pe_op op_mul pe_int (pv 3)) (pv 3))) pe_int) pa_nil)) pe_int) pe_int))
      (pss_one (ps_ret (pe_op op_mod (pe_callTy call_int_i (by rfl) T.n_int (by decide +kernel) (pa_cons (pe_op op_fdiv (pv 6) pe_int) pa_nil)) (pv 1)))))))))))), ?_⟩
    show (_ : TS) _ [some (V.ref p), some (V.int m), none, none, none, none, none] H
    have hpc : p ≠ c := fun z => by subst z; rw [hp] at hc; cases cs <;> simp at hc
    (repeat (first | (refine ⟨_, rfl, ?_⟩) | (refine ⟨_, _, rfl, rfl, ?_⟩) | (refine ⟨_, _, _, _, rfl, rfl, SqL.of (by assumption), (by rfl), ?_⟩) | (refine ⟨_, _, _, _, rfl, rfl, (by assumption), (by rfl), ?_⟩) | (refine ⟨_, _, _, _, rfl, rfl, SqL.of (by assumption), (by assumption), ?_⟩) | (refine ⟨_, _, rfl, .inl (SqL.of (by assumption)), ?_⟩) | (refine ⟨_, _, _, _, _, rfl, (by assumption), (by assumption), (by assumption), (by rfl), ?_⟩) | (refine ⟨_, _, _, _, rfl, (by assumption), (by assumption), (by assumption), (Nat.le_of_ble_eq_true rfl), ?_⟩) | (refine And.intro (by first | assumption | rfl | (show (0:Int) < _; omega) | (show CDiv _ _; exact ⟨by omega, by omega⟩) | (show CMul _ _; first | exact .inl ⟨by omega, by omega⟩ | exact .inr ⟨by omega, by omega⟩) | (show CPow _ _; exact ⟨by omega, by omega, by omega⟩) | (show (_ : Nat) ≤ sizeLine; exact Nat.le_of_ble_eq_true rfl)) ?_) ))
    refine ite2 (fun h => ?_) (fun h => ?_)
    · (repeat (first | (refine ⟨_, rfl, ?_⟩) | (refine ⟨_, _, rfl, rfl, ?_⟩) | (refine ⟨_, _, _, _, rfl, rfl, SqL.of (by assumption), (by rfl), ?_⟩) | (refine ⟨_, _, _, _, rfl, rfl, (by assumption), (by rfl), ?_⟩) | (refine ⟨_, _, _, _, rfl, rfl, SqL.of (by assumption), (by assumption), ?_⟩) | (refine ⟨_, _, rfl, .inl (SqL.of (by assumption)), ?_⟩) | (refine ⟨_, _, _, _, _, rfl, (by assumption), (by assumption), (by assumption), (by rfl), ?_⟩) | (refine ⟨_, _, _, _, rfl, (by assumption), (by assumption), (by assumption), (Nat.le_of_ble_eq_true rfl), ?_⟩) | (refine And.intro (by first | assumption | rfl | (show (0:Int) < _; omega) | (show CDiv _ _; exact ⟨by omega, by omega⟩) | (show CMul _ _; first | exact .inl ⟨by omega, by omega⟩ | exact .inr ⟨by omega, by omega⟩) | (show CPow _ _; exact ⟨by omega, by omega, by omega⟩) | (show (_ : Nat) ≤ sizeLine; exact Nat.le_of_ble_eq_true rfl)) ?_) ))
      have h0 : (0 : Int) < r := of_decide_eq_true h
      refine k _ _ (Int.emod_nonneg _ (by omega)) (Int.emod_lt_of_pos _ m0) (Kq.pen hp) ⟨cs, i, r / m, upd_same, by rw [upd_ne hpc.symm]; exact hc, i0, by omega, Int.ediv_nonneg r0 (by omega)⟩
    · have h0 : ¬ (0 : Int) < r := fun z => h (decide_eq_true z)
      (repeat (first | (refine ⟨_, rfl, ?_⟩) | (refine ⟨_, _, rfl, rfl, ?_⟩) | (refine ⟨_, _, _, _, rfl, rfl, SqL.of (by assumption), (by rfl), ?_⟩) | (refine ⟨_, _, _, _, rfl, rfl, (by assumption), (by rfl), ?_⟩) | (refine ⟨_, _, _, _, rfl, rfl, SqL.of (by assumption), (by assumption), ?_⟩) | (refine ⟨_, _, rfl, .inl (SqL.of (by assumption)), ?_⟩) | (refine ⟨_, _, _, _, _, rfl, (by assumption), (by assumption), (by assumption), (by rfl), ?_⟩) | (refine ⟨_, _, _, _, rfl, (by assumption), (by assumption), (by assumption), (Nat.le_of_ble_eq_true rfl), ?_⟩) | (refine And.intro (by first | assumption | rfl | (show (0:Int) < _; omega) | (show CDiv _ _; exact ⟨by omega, by omega⟩) | (show CMul _ _; first | exact .inl ⟨by omega, by omega⟩ | exact .inr ⟨by omega, by omega⟩) | (show CPow _ _; exact ⟨by omega, by omega, by omega⟩) | (show (_ : Nat) ≤ sizeLine; exact Nat.le_of_ble_eq_true rfl)) ?_) ))
      generalize eH : upd H p _ = H1
      have hp1 : H1 p = some (.lst [.ref c, .int (i + 1), .int r]) := by rw [← eH]; exact upd_same
      have hc1 : H1 c = some (.lst (cs.map V.int)) := by rw [← eH, upd_ne hpc.symm]; exact hc
      have kp1 : Kq H H1 := by rw [← eH]; exact Kq.pen hp
      clear eH
      (repeat (first | (refine ⟨_, rfl, ?_⟩) | (refine ⟨_, _, rfl, rfl, ?_⟩) | (refine ⟨_, _, _, _, rfl, rfl, SqL.of (by assumption), (by rfl), ?_⟩) | (refine ⟨_, _, _, _, rfl, rfl, (by assumption), (by rfl), ?_⟩) | (refine ⟨_, _, _, _, rfl, rfl, SqL.of (by assumption), (by assumption), ?_⟩) | (refine ⟨_, _, rfl, .inl (SqL.of (by assumption)), ?_⟩) | (refine ⟨_, _, _, _, _, rfl, (by assumption), (by assumption), (by assumption), (by rfl), ?_⟩) | (refine ⟨_, _, _, _, rfl, (by assumption), (by assumption), (by assumption), (Nat.le_of_ble_eq_true rfl), ?_⟩) | (refine And.intro (by first | assumption | rfl | (show (0:Int) < _; omega) | (show CDiv _ _; exact ⟨by omega, by omega⟩) | (show CMul _ _; first | exact .inl ⟨by omega, by omega⟩ | exact .inr ⟨by omega, by omega⟩) | (show CPow _ _; exact ⟨by omega, by omega, by omega⟩) | (show (_ : Nat) ≤ sizeLine; exact Nat.le_of_ble_eq_true rfl)) ?_) ))
      refine ⟨fun σ' H' => ∃ z : Int, σ' = [some (V.ref p), some (V.int m), none, some (V.int i), some (V.int z), none, none] ∧ H' p = some (.lst [.ref c, .int (i + 1), .int r]) ∧ H' c = some (.lst (cs.map V.int)) ∧ Kq H H', ?_, ?_⟩
      · (repeat (first | (refine ⟨_, rfl, ?_⟩) | (refine ⟨_, _, rfl, rfl, ?_⟩) | (refine ⟨_, _, _, _, rfl, rfl, SqL.of (by assumption), (by rfl), ?_⟩) | (refine ⟨_, _, _, _, rfl, rfl, (by assumption), (by rfl), ?_⟩) | (refine ⟨_, _, _, _, rfl, rfl, SqL.of (by assumption), (by assumption), ?_⟩) | (refine ⟨_, _, rfl, .inl (SqL.of (by assumption)), ?_⟩) | (refine ⟨_, _, _, _, _, rfl, (by assumption), (by assumption), (by assumption), (by rfl), ?_⟩) | (refine ⟨_, _, _, _, rfl, (by assumption), (by assumption), (by assumption), (Nat.le_of_ble_eq_true rfl), ?_⟩) | (refine And.intro (by first | assumption | rfl | (show (0:Int) < _; omega) | (show CDiv _ _; exact ⟨by omega, by omega⟩) | (show CMul _ _; first | exact .inl ⟨by omega, by omega⟩ | exact .inr ⟨by omega, by omega⟩) | (show CPow _ _; exact ⟨by omega, by omega, by omega⟩) | (show (_ : Nat) ≤ sizeLine; exact Nat.le_of_ble_eq_true rfl)) ?_) ))
        intro e he
        have kp2 : Kq H (upd H1 e (.lst [])) := kp1.trans (Kq.new he)
        have k12 : Kp [] H1 (upd H1 e (.lst [])) := Kp.new he
        refine ⟨_, _, _, rfl, rfl, SqL.of (k12.same _ _ hc1), SqL.of upd_same, _, rfl, ?_⟩
        replace hp1 := k12.same _ _ hp1
        replace hc1 := k12.same _ _ hc1
        generalize upd H1 e (.lst []) = H2 at *
        refine ite2 (fun g => ?_) (fun g => ?_)
        · have ne : cs ≠ [] := fun z => by subst z; simp at g
          have pos : 0 < (cs.map V.int).length := by rw [List.length_map]; exact List.length_pos_iff.mpr ne
          have pos' : (0 : Int) < ((cs.map V.int).length : Nat) := by omega
          (repeat (first | (refine ⟨_, rfl, ?_⟩) | (refine ⟨_, _, rfl, rfl, ?_⟩) | (refine ⟨_, _, _, _, rfl, rfl, SqL.of (by assumption), (by rfl), ?_⟩) | (refine ⟨_, _, _, _, rfl, rfl, (by assumption), (by rfl), ?_⟩) | (refine ⟨_, _, _, _, rfl, rfl, SqL.of (by assumption), (by assumption), ?_⟩) | (refine ⟨_, _, rfl, .inl (SqL.of (by assumption)), ?_⟩) | (refine ⟨_, _, _, _, _, rfl, (by assumption), (by assumption), (by assumption), (by rfl), ?_⟩) | (refine ⟨_, _, _, _, rfl, (by assumption), (by assumption), (by assumption), (Nat.le_of_ble_eq_true rfl), ?_⟩) | (refine And.intro (by first | assumption | rfl | (show (0:Int) < _; omega) | (show CDiv _ _; exact ⟨by omega, by omega⟩) | (show CMul _ _; first | exact .inl ⟨by omega, by omega⟩ | exact .inr ⟨by omega, by omega⟩) | (show CPow _ _; exact ⟨by omega, by omega, by omega⟩) | (show (_ : Nat) ≤ sizeLine; exact Nat.le_of_ble_eq_true rfl)) ?_) ))
          obtain ⟨v, hv⟩ := atI_ints (cs := cs) (z := i % ((cs.map V.int).length : Nat)) (Int.emod_nonneg _ (by omega)) (by have := Int.emod_lt_of_pos i pos'; simpa using this)
          exact ⟨_, _, _, _, rfl, rfl, SqL.of hc1, hv, _, rfl, hp1, hc1, kp2⟩
        · exact ⟨_, rfl, hp1, hc1, kp2⟩
      · rintro _ H2 ⟨z, rfl, hp2, hc2, kp2⟩
        refine ⟨fun σ' H' => σ' = [some (V.ref p), some (V.int m), none, some (V.int i), some (V.int z), none, none] ∧ H' = H2, ?_, ?_⟩
        · (repeat (first | (refine ⟨_, rfl, ?_⟩) | (refine ⟨_, _, rfl, rfl, ?_⟩) | (refine ⟨_, _, _, _, rfl, rfl, SqL.of (by assumption), (by rfl), ?_⟩) | (refine ⟨_, _, _, _, rfl, rfl, (by assumption), (by rfl), ?_⟩) | (refine ⟨_, _, _, _, rfl, rfl, SqL.of (by assumption), (by assumption), ?_⟩) | (refine ⟨_, _, rfl, .inl (SqL.of (by assumption)), ?_⟩) | (refine ⟨_, _, _, _, _, rfl, (by assumption), (by assumption), (by assumption), (by rfl), ?_⟩) | (refine ⟨_, _, _, _, rfl, (by assumption), (by assumption), (by assumption), (Nat.le_of_ble_eq_true rfl), ?_⟩) | (refine And.intro (by first | assumption | rfl | (show (0:Int) < _; omega) | (show CDiv _ _; exact ⟨by omega, by omega⟩) | (show CMul _ _; first | exact .inl ⟨by omega, by omega⟩ | exact .inr ⟨by omega, by omega⟩) | (show CPow _ _; exact ⟨by omega, by omega, by omega⟩) | (show (_ : Nat) ≤ sizeLine; exact Nat.le_of_ble_eq_true rfl)) ?_) ))
          refine ite2 (fun g => ?_) (fun g => iteF ⟨rfl, rfl⟩)
          (repeat (first | (refine ⟨_, rfl, ?_⟩) | (refine ⟨_, _, rfl, rfl, ?_⟩) | (refine ⟨_, _, _, _, rfl, rfl, SqL.of (by assumption), (by rfl), ?_⟩) | (refine ⟨_, _, _, _, rfl, rfl, (by assumption), (by rfl), ?_⟩) | (refine ⟨_, _, _, _, rfl, rfl, SqL.of (by assumption), (by assumption), ?_⟩) | (refine ⟨_, _, rfl, .inl (SqL.of (by assumption)), ?_⟩) | (refine ⟨_, _, _, _, _, rfl, (by assumption), (by assumption), (by assumption), (by rfl), ?_⟩) | (refine ⟨_, _, _, _, rfl, (by assumption), (by assumption), (by assumption), (Nat.le_of_ble_eq_true rfl), ?_⟩) | (refine And.intro (by first | assumption | rfl | (show (0:Int) < _; omega) | (show CDiv _ _; exact ⟨by omega, by omega⟩) | (show CMul _ _; first | exact .inl ⟨by omega, by omega⟩ | exact .inr ⟨by omega, by omega⟩) | (show CPow _ _; exact ⟨by omega, by omega, by omega⟩) | (show (_ : Nat) ≤ sizeLine; exact Nat.le_of_ble_eq_true rfl)) ?_) ))
          refine ite2 (fun g2 => ?_) (fun g2 => ⟨rfl, rfl⟩)
          (repeat (first | (refine ⟨_, rfl, ?_⟩) | (refine ⟨_, _, rfl, rfl, ?_⟩) | (refine ⟨_, _, _, _, rfl, rfl, SqL.of (by assumption), (by rfl), ?_⟩) | (refine ⟨_, _, _, _, rfl, rfl, (by assumption), (by rfl), ?_⟩) | (refine ⟨_, _, _, _, rfl, rfl, SqL.of (by assumption), (by assumption), ?_⟩) | (refine ⟨_, _, rfl, .inl (SqL.of (by assumption)), ?_⟩) | (refine ⟨_, _, _, _, _, rfl, (by assumption), (by assumption), (by assumption), (by rfl), ?_⟩) | (refine ⟨_, _, _, _, rfl, (by assumption), (by assumption), (by assumption), (Nat.le_of_ble_eq_true rfl), ?_⟩) | (refine And.intro (by first | assumption | rfl | (show (0:Int) < _; omega) | (show CDiv _ _; exact ⟨by omega, by omega⟩) | (show CMul _ _; first | exact .inl ⟨by omega, by omega⟩ | exact .inr ⟨by omega, by omega⟩) | (show CPow _ _; exact ⟨by omega, by omega, by omega⟩) | (show (_ : Nat) ≤ sizeLine; exact Nat.le_of_ble_eq_true rfl)) ?_) ))
          have h2 : 0 ≤ (2 * if z < 0 then -z else z) + if decide (z < 0) = true then 1 else 0 := by split <;> split <;> omega
          refine k _ _ (mod_lt' m0).1 (mod_lt' m0).2 (kp2.trans (Kq.pen hp2)) ⟨cs, i + 1, _, upd_same, by rw [upd_ne hpc.symm]; exact hc2, by omega, by omega, Int.ediv_nonneg h2 (by omega)⟩
        · rintro _ H3 ⟨rfl, rfl⟩
          have lb := mod_lt' (a := (z % 2147483543 + 33403 * i + 71) ^ Int.toNat 5) (b := 2147483563) (by decide)
          (repeat (first | (refine ⟨_, rfl, ?_⟩) | (refine ⟨_, _, rfl, rfl, ?_⟩) | (refine ⟨_, _, _, _, rfl, rfl, SqL.of (by assumption), (by rfl), ?_⟩) | (refine ⟨_, _, _, _, rfl, rfl, (by assumption), (by rfl), ?_⟩) | (refine ⟨_, _, _, _, rfl, rfl, SqL.of (by assumption), (by assumption), ?_⟩) | (refine ⟨_, _, rfl, .inl (SqL.of (by assumption)), ?_⟩) | (refine ⟨_, _, _, _, _, rfl, (by assumption), (by assumption), (by assumption), (by rfl), ?_⟩) | (refine ⟨_, _, _, _, rfl, (by assumption), (by assumption), (by assumption), (Nat.le_of_ble_eq_true rfl), ?_⟩) | (refine And.intro (by first | assumption | rfl | (show (0:Int) < _; omega) | (show CDiv _ _; exact ⟨by omega, by omega⟩) | (show CMul _ _; first | exact .inl ⟨by omega, by omega⟩ | exact .inr ⟨by omega, by omega⟩) | (show CPow _ _; exact ⟨by omega, by omega, by omega⟩) | (show (_ : Nat) ≤ sizeLine; exact Nat.le_of_ble_eq_true rfl)) ?_) ))
          refine And.intro (mix_pow lb.1 lb.2 i0 (by omega)) ?_
          (repeat (first | (refine ⟨_, rfl, ?_⟩) | (refine ⟨_, _, rfl, rfl, ?_⟩) | (refine ⟨_, _, _, _, rfl, rfl, SqL.of (by assumption), (by rfl), ?_⟩) | (refine ⟨_, _, _, _, rfl, rfl, (by assumption), (by rfl), ?_⟩) | (refine ⟨_, _, _, _, rfl, rfl, SqL.of (by assumption), (by assumption), ?_⟩) | (refine ⟨_, _, rfl, .inl (SqL.of (by assumption)), ?_⟩) | (refine ⟨_, _, _, _, _, rfl, (by assumption), (by assumption), (by assumption), (by rfl), ?_⟩) | (refine ⟨_, _, _, _, rfl, (by assumption), (by assumption), (by assumption), (Nat.le_of_ble_eq_true rfl), ?_⟩) | (refine And.intro (by first | assumption | rfl | (show (0:Int) < _; omega) | (show CDiv _ _; exact ⟨by omega, by omega⟩) | (show CMul _ _; first | exact .inl ⟨by omega, by omega⟩ | exact .inr ⟨by omega, by omega⟩) | (show CPow _ _; exact ⟨by omega, by omega, by omega⟩) | (show (_ : Nat) ≤ sizeLine; exact Nat.le_of_ble_eq_true rfl)) ?_) ))
          exact k _ _ (mod_lt' m0).1 (mod_lt' m0).2 kp2 ⟨cs, i + 1, r, hp2, hc2, by omega, by omega, r0⟩
theorem cPen (D : Dfn K mg "_law_pen" s_law_pen) (T : Txt K mg aW aP C) : Cal P w K mg base 1 "_law_pen" (spPen K) := by
  refine cal D sc_law_pen (fun _ _ _ _ _ _ us hl => match us, hl with | [_], _ => rfl) (fun vs H Q E h => ?_) (fun f cdv A outer s H vs Q E hr h => ?_)
  · obtain ⟨p, ns, rfl, _⟩ := h; rfl
  · obtain ⟨a, ns, rfl, ha, hl, k⟩ := h
    refine ⟨_, (pss_one (ps_ret (pe_lst (pa_cons (pe_callTy call_list_of (by rfl) T.n_list (by decide +kernel) (pa_cons (pe_slice sl_list (pv 0) po_none (po_some pe_int)) pa_nil)) (pa_cons pe_int (pa_cons pe_int pa_nil)))))), ?_⟩
    show (_ : TS) _ [some (V.ref a)] H
    have kp : Kp [] H H := Kp.refl _ _
    refine ⟨_, rfl, _, rfl, _, _, rfl, ha, ?_⟩
    (intro b hb; generalize eH : upd H b _ = H1; have k12 : Kp [] H H1 := eH ▸ Kp.new hb; replace hb := (congrFun eH.symm b).trans upd_same; clear eH; replace kp := kp.trans (k12.mono (fun _ z => nomatch z)); clear k12)
    obtain ⟨ms, em⟩ : ∃ ms : List Int, cutV (ns.map V.int) none (some 63) = ms.map V.int := by
      unfold cutV
      rw [← List.map_drop, ← List.map_take]
      exact ⟨_, rfl⟩
    rw [em] at hb
    (repeat (first | (refine ⟨_, rfl, ?_⟩) | (refine ⟨_, _, rfl, rfl, ?_⟩) | (refine ⟨_, _, _, _, rfl, rfl, SqL.of (by assumption), (by rfl), ?_⟩) | (refine ⟨_, _, _, _, rfl, rfl, (by assumption), (by rfl), ?_⟩) | (refine ⟨_, _, _, _, rfl, rfl, SqL.of (by assumption), (by assumption), ?_⟩) | (refine ⟨_, _, rfl, .inl (SqL.of (by assumption)), ?_⟩) | (refine ⟨_, _, _, _, _, rfl, (by assumption), (by assumption), (by assumption), (by rfl), ?_⟩) | (refine ⟨_, _, _, _, rfl, (by assumption), (by assumption), (by assumption), (Nat.le_of_ble_eq_true rfl), ?_⟩) | (refine And.intro (by first | assumption | rfl | (show (0:Int) < _; omega) | (show CDiv _ _; exact ⟨by omega, by omega⟩) | (show CMul _ _; first | exact .inl ⟨by omega, by omega⟩ | exact .inr ⟨by omega, by omega⟩) | (show CPow _ _; exact ⟨by omega, by omega, by omega⟩) | (show (_ : Nat) ≤ sizeLine; exact Nat.le_of_ble_eq_true rfl)) ?_) ))
    (intro c hc; generalize eH : upd H1 c _ = H2; have k12 : Kp [] H1 H2 := eH ▸ Kp.new hc; replace hc := (congrFun eH.symm c).trans upd_same; clear eH; replace hb := k12.same _ _ hb; replace kp := kp.trans (k12.mono (fun _ z => nomatch z)); clear k12)
    (repeat (first | (refine ⟨_, rfl, ?_⟩) | (refine ⟨_, _, rfl, rfl, ?_⟩) | (refine ⟨_, _, _, _, rfl, rfl, SqL.of (by assumption), (by rfl), ?_⟩) | (refine ⟨_, _, _, _, rfl, rfl, (by assumption), (by rfl), ?_⟩) | (refine ⟨_, _, _, _, rfl, rfl, SqL.of (by assumption), (by assumption), ?_⟩) | (refine ⟨_, _, rfl, .inl (SqL.of (by assumption)), ?_⟩) | (refine ⟨_, _, _, _, _, rfl, (by assumption), (by assumption), (by assumption), (by rfl), ?_⟩) | (refine ⟨_, _, _, _, rfl, (by assumption), (by assumption), (by assumption), (Nat.le_of_ble_eq_true rfl), ?_⟩) | (refine And.intro (by first | assumption | rfl | (show (0:Int) < _; omega) | (show CDiv _ _; exact ⟨by omega, by omega⟩) | (show CMul _ _; first | exact .inl ⟨by omega, by omega⟩ | exact .inr ⟨by omega, by omega⟩) | (show CPow _ _; exact ⟨by omega, by omega, by omega⟩) | (show (_ : Nat) ≤ sizeLine; exact Nat.le_of_ble_eq_true rfl)) ?_) ))
    intro p hp
    exact k p c _ (kp.dom p hp) ((kp.trans (Kp.new hp))) ⟨ms, 0, 0, upd_same, by rw [upd_ne (ne_of_none hc hp)]; exact hc, by omega, by omega, by omega⟩
end
end K14

namespace K14
open PySem L2 GB G1 Tb
def spPick (K : PySem.W.Frag) : Sp := fun vs H Q _ => ∃ (p c a : Addr) (n : Int) (xs : List V), vs = [.ref p, .ref a] ∧ Pen H p c n ∧ n ≤ 99999 ∧ H a = some (.lst xs) ∧ penShape (.lst xs) = false ∧ xs ≠ [] ∧ xs.length ≤ 1000 ∧
  ∀ v H', v ∈ xs → Kq H H' → Pen H' p c (n + 1) → Q v H'
def spSome : Sp := fun vs H Q _ => ∃ (p c a : Addr) (n least most : Int) (pool : List Str), vs = [.ref p, .ref a, .int least, .int most] ∧ Pen H p c n ∧ n ≤ 99900 ∧ StrL H a pool ∧ pool.length ≤ 50 ∧ 0 ≤ least ∧ least ≤ most ∧ most ≤ 50 ∧ least ≤ pool.length ∧
  ∀ r ys H', StrL H' r ys → (pool.Nodup → ys.Nodup) → (∀ x ∈ ys, x ∈ pool) → least ≤ ys.length → (ys.length : Int) ≤ most → ys.length ≤ pool.length → Kq H H' → Pen H' p c (n + 60) → Q (.ref r) H'
section
variable {P : Program} {w : World} {K : PySem.W.Frag} {mg : Str → Option Value} {base : Heap} {aW aP C dk dl : Addr}
theorem atI_mem {xs : List V} {d : Int} (h0 : 0 ≤ d) (h1 : d < (xs.length : Int)) : ∃ v, atI xs d = some v ∧ v ∈ xs := by
  obtain ⟨j, rfl⟩ := Int.eq_ofNat_of_zero_le h0
  have hj : j < xs.length := by omega
  exact ⟨xs[j], atI_nat (List.getElem?_eq_getElem hj), List.getElem_mem hj⟩
theorem cPick (D : Dfn K mg "_law_pick" s_law_pick) (T : Txt K mg aW aP C) (cDraw : Cal P w K mg base 1 "_law_draw" spDraw) : Cal P w K mg base 2 "_law_pick" (spPick K) := by
  refine cal D sc_law_pick (fun _ _ _ _ _ _ us hl => match us, hl with | [_, _], _ => rfl) (fun vs H Q E h => ?_) (fun f cdv A outer s H vs Q E hr h => ?_)
  · obtain ⟨p, c, a, n, xs, rfl, _⟩ := h; rfl
  · obtain ⟨p, c, a, n, xs, rfl, pen, hn, ha, sh, ne, hl, k⟩ := h
    refine ⟨_, (pss_one (ps_ret (pe_ix ix_list (pv 1) (pe_c cDraw hr (by decide) (by rfl) (pa_cons (pv 0) (pa_cons (pe_callB call_len_seq (by rfl) T.n_len (by decide +kernel) (pa_cons (pv 1) pa_nil)) pa_nil))) (fun _ _ => rfl)))), ?_⟩
    show (_ : TS) _ [some (V.ref p), some (V.ref a)] H
    (repeat (first | (refine ⟨_, rfl, ?_⟩) | (refine ⟨_, _, rfl, rfl, ?_⟩) | (refine ⟨_, _, _, _, rfl, rfl, SqL.of (by assumption), (by rfl), ?_⟩) | (refine ⟨_, _, _, _, rfl, rfl, (by assumption), (by rfl), ?_⟩) | (refine ⟨_, _, _, _, rfl, rfl, SqL.of (by assumption), (by assumption), ?_⟩) | (refine ⟨_, _, rfl, .inl (SqL.of (by assumption)), ?_⟩) | (refine ⟨_, _, _, _, _, rfl, (by assumption), (by assumption), (by assumption), (by rfl), ?_⟩) | (refine ⟨_, _, _, _, rfl, (by assumption), (by assumption), (by assumption), (Nat.le_of_ble_eq_true rfl), ?_⟩) | (refine And.intro (by first | assumption | rfl | (show (0:Int) < _; omega) | (show CDiv _ _; exact ⟨by omega, by omega⟩) | (show CMul _ _; first | exact .inl ⟨by omega, by omega⟩ | exact .inr ⟨by omega, by omega⟩) | (show CPow _ _; exact ⟨by omega, by omega, by omega⟩) | (show (_ : Nat) ≤ sizeLine; exact Nat.le_of_ble_eq_true rfl)) ?_) ))
    have pos := List.length_pos_iff.mpr ne
    refine ⟨p, c, _, n, rfl, pen, by omega, by omega, by omega, fun d H' d0 d1 kq pen' => ?_⟩
    obtain ⟨v, hv, hm⟩ := atI_mem (xs := xs) d0 (by omega)
    have ha' := kq.keep _ _ sh ha
    refine ⟨_, _, _, _, rfl, rfl, SqL.of ha', hv, ?_⟩
    exact k _ _ hm kq pen'
theorem mapErase {α β : Type} (f : α → β) : ∀ (l : List α) (j : Nat), (l.eraseIdx j).map f = (l.map f).eraseIdx j
  | [], _ => rfl
  | _ :: _, 0 => rfl
  | x :: xs, j + 1 => by simp only [List.eraseIdx_cons_succ, List.map_cons, mapErase f xs j]
theorem erasePerm {α : Type} : ∀ (l : List α) (j : Nat) (y : α), l[j]? = some y → (y :: l.eraseIdx j).Perm l
  | [], _, _, h => by simp at h
  | x :: xs, 0, y, h => by simp at h; subst h; exact List.Perm.refl _
  | x :: xs, j + 1, y, h => by
    have ih := erasePerm xs j y (by simpa using h)
    exact (List.Perm.swap x y _).trans (List.Perm.cons x ih)
theorem seqIx {j n : Nat} (h : j < n) : seqIndex? (j : Int) n = some j := by
  unfold seqIndex?
  rw [if_neg (by omega : ¬ (j : Int) < 0), if_pos (by simp; omega)]
  simp
theorem set_get {σ : L2.St} {i0 i : Nat} {x : Option V} (h : i ≠ i0) : ((wipe σ [i0]).set i0 x)[i]? = σ[i]? := by
  show ((σ.set i0 none).set i0 x)[i]? = σ[i]?
  rw [List.getElem?_set_ne (Ne.symm h), List.getElem?_set_ne (Ne.symm h)]
def tePop (K : PySem.W.Frag) (iL iP : Nat) : TE := tBM K "list" rPopAt (tVar iL) (tCons (tCall spDraw [] E0 (tCons (tVar iP) (tCons (tCB (fun xs H Q => ∃ p ys, xs = [V.ref p] ∧ (SqL K H p ys ∨ SqT K H p ys) ∧ Q (.int (ys.length : Nat)) H) (tCons (tVar iL) tNil)) tNil))) tNil)
theorem pop_step {iL iP : Nat} {σ : L2.St} {H : Hp} {Q : VK} {l p c : Addr} {left : List Str} {n : Int} (h1 : σ[iL]? = some (some (.ref l))) (h2 : σ[iP]? = some (some (.ref p))) (hl : StrL H l left) (ne : left ≠ []) (ln : left.length ≤ 1000) (pen : Pen H p c n) (hn : n ≤ 99999)
    (q : ∀ (y : Str) (j : Nat) (H' : Hp), left[j]? = some y → Kq H H' → StrL H' l left → Pen H' p c (n + 1) → Q (.str y) (upd H' l (.lst ((left.eraseIdx j).map V.str)))) : tePop K iL iP σ H Q := by
  refine ⟨_, h1, .inl ⟨rfl, _, SqL.of hl⟩, _, h2, _, h1, _, _, rfl, .inl (SqL.of hl), ?_⟩
  have pos := List.length_pos_iff.mpr ne
  refine ⟨p, c, _, n, rfl, pen, by rw [List.length_map]; omega, by rw [List.length_map]; omega, by omega, fun d H' d0 d1 kq pen' => ?_⟩
  rw [List.length_map] at d1
  obtain ⟨j, rfl⟩ := Int.eq_ofNat_of_zero_le d0
  have hj : j < left.length := by omega
  have hl' := hl.kq kq
  refine ⟨l, _, _, j, .str left[j], rfl, rfl, hl', by omega, by omega, ?_, by rw [List.getElem?_map, List.getElem?_eq_getElem hj]; rfl, ?_⟩
  · rw [List.length_map]
    exact seqIx hj
  · have z := q left[j] j H' (List.getElem?_eq_getElem hj) kq hl' pen'
    rwa [mapErase] at z
theorem lc_pops {i0 iL iP : Nat} {σ : L2.St} {H0 H1 : Hp} {D l p c : Addr} {pool : List Str} {n m : Nat} {k0 : Int} {Qd : Hp → Prop} (hm : m ≤ pool.length) (lp : pool.length ≤ 1000) (hk : k0 + m ≤ 99999)
    (h1 : iL ≠ i0) (h2 : iP ≠ i0) (e1 : σ[iL]? = some (some (.ref l))) (e2 : σ[iP]? = some (some (.ref p))) (f1 : H0 l = none) (fD : H1 D = none) (kq : Kq H0 H1) (hl : StrL H1 l pool) (pen0 : Pen H0 p c k0) (pen : Pen H1 p c k0)
    (hd : ∀ zs left H, StrL H D zs → zs.length = m → (zs ++ left).Perm pool → Kq H0 H → Pen H p c (k0 + m) → Qd H) :
    ∃ W : Nat → Nat → Hp → Prop, (∃ m, W 0 m (upd H1 D (.lst []))) ∧ ∀ i m' H, W i m' H →
      ((Itr 0 m).stop i H ∧ Qd H) ∨ ((Itr 0 m).go i H ∧ ∃ Nx : Hp → Prop, (∀ H', Nx H' → ∃ m'', m'' < m' ∧ W (i + 1) m'' H') ∧ ∀ x H', (Itr 0 m).yld i H x H' → gName i0 x (wipe σ [i0]) H' fun σ2 H2 => wipe σ2 [i0] = wipe σ [i0] ∧ tYes σ2 H2 fun b H3 =>
        if b = true then tePop K iL iP σ2 H3 fun y H4 => ∃ acc, H4 D = some (.lst acc) ∧ acc.length < sizeLine ∧ Nx (upd H4 D (.lst (acc ++ [y]))) else Nx H3) := by
  have lD : l ≠ D := ne_of_none hl fD
  have D0 : H0 D = none := kq.dom D fD
  have pl := pen0.nep f1
  have pD := pen0.nep D0
  refine lc_acc walk_range (fun i ys H => ∃ zs left, ys = zs.map V.str ∧ (zs ++ left).Perm pool ∧ StrL H l left ∧ Pen H p c (k0 + i) ∧ Kq H0 H) ?_ (fun _ _ _ _ _ _ _ => trivial) ?_ ?_
  · refine ⟨[], pool, rfl, List.Perm.refl _, by rw [StrL, upd_ne lD]; exact hl, ?_, Kq.putNew kq D0⟩
    have := pen.put (o := .lst []) pD
    simpa using this
  · rintro i _ ys H _ hi ly hD ⟨zs, left, rfl, pm, hl, pen, kq⟩ ⟨rfl, rfl⟩
    have lz : zs.length = i := by simpa using ly
    have ll : zs.length + left.length = pool.length := by rw [← List.length_append]; exact pm.length_eq
    refine pop_step (l := l) (p := p) (c := c) (left := left) (n := k0 + i) ?_ ?_ hl (by intro z; subst z; simp at ll; omega) (by omega) pen (by omega) ?_
    · rw [set_get h1]; exact e1
    · rw [set_get h2]; exact e2
    · intro y j H' hj kq' hl' pen'
      refine acc_to (ys := zs.map V.str) (by rw [upd_ne lD.symm]; exact kq'.keep _ _ (shape_strs zs) hD) (by simpa using lz) (Nat.lt_of_lt_of_le (by omega : i < 1001) (by decide)) ?_
      refine ⟨zs ++ [y], left.eraseIdx j, by simp, ?_, by rw [StrL, upd_ne lD, upd_same], ?_, Kq.putNew (Kq.putNew (kq.trans kq') f1) D0⟩
      · refine List.Perm.trans ?_ pm
        rw [List.append_assoc]
        exact List.Perm.append_left zs (erasePerm left j y hj)
      · have := (pen'.put (o := .lst ((left.eraseIdx j).map V.str)) pl).put (o := .lst (zs.map V.str ++ [V.str y])) pD
        have e : k0 + (i : Nat) + 1 = k0 + ((i + 1 : Nat) : Int) := by omega
        rw [e] at this
        exact this
  · rintro ys H ly hD ⟨zs, left, rfl, pm, hl, pen, kq⟩
    exact hd zs left H hD (by simpa using ly) pm kq pen
theorem cSome (D : Dfn K mg "_law_some" s_law_some) (T : Txt K mg aW aP C) (cDraw : Cal P w K mg base 1 "_law_draw" spDraw) : Cal P w K mg base 2 "_law_some" spSome := by
  refine cal D sc_law_some (fun _ _ _ _ _ _ us hl => match us, hl with | [_, _, _, _], _ => rfl) (fun vs H Q E h => ?_) (fun f cdv A outer s H vs Q E hr h => ?_)
  · obtain ⟨p, c, a, n, l, m, pool, rfl, _⟩ := h; rfl
  · obtain ⟨p, c, a, n, least, most, pool, rfl, pen, hn, ha, hl, l0, lm, m50, lp, k⟩ := h
    refine ⟨_, (pss_cons (ps_set (i := 4) sc_law_some.nd rfl (Or.inr rfl) (pe_callTy call_list_of (by rfl) T.n_list (by decide +kernel) (pa_cons (pv 1) pa_nil)))
      (pss_cons (ps_set (i := 5) sc_law_some.nd rfl (Or.inl rfl) (pe_op op_add (pv 2) (pe_c cDraw hr (by decide) (by rfl) (pa_cons (pv 0) (pa_cons (pe_op op_add (pe_op op_sub (pe_callB (call_min2 rfl) (by rfl) T.n_min (by decide +kernel) (pa_cons (pv 3) (pa_cons (pe_callB call_len_seq (by rfl) T.n_len (by decide +kernel) (pa_cons (pv 1) pa_nil)) pa_nil))) (pv 2)) pe_int) pa_nil)))))
      (pss_one (ps_ret (pe_lc (own := [("_law_turn", 6)]) (by rfl) sc_law_some.nd (pi_range1 (by rfl) T.n_range (pa_cons (pv 5) pa_nil)) (blkOk_by (own := [("_law_turn", 6)]) (N := N_law_some) (sc := defScope s_law_some) (by decide +kernel)) (fun _ _ _ _ _ => pg_name (i := 6) sc_law_some.nd rfl (Or.inl rfl)) (fun _ _ _ _ _ => pts_nil) (fun _ _ _ _ _ => pe_bmK (K := K) rfl PySem.F.plainAttrs_list PySem.F.slot_list_pop PySem.F.type_list_pop mt_popAt (pv 4) (pa_cons (pe_c cDraw hr (by decide) (by rfl) (pa_cons (pv 0) (pa_cons (pe_callB (call_len_seqK (K := K)) (by rfl) T.n_len (by decide +kernel) (pa_cons (pv 4) pa_nil)) pa_nil))) pa_nil))))))), ?_⟩
    show (_ : TS) _ [some (V.ref p), some (V.ref a), some (V.int least), some (V.int most), none, none, none] H
    (repeat (first | (refine ⟨_, rfl, ?_⟩) | (refine ⟨_, _, rfl, rfl, ?_⟩) | (refine ⟨_, _, _, _, rfl, rfl, SqL.of (by assumption), (by rfl), ?_⟩) | (refine ⟨_, _, _, _, rfl, rfl, (by assumption), (by rfl), ?_⟩) | (refine ⟨_, _, _, _, rfl, rfl, SqL.of (by assumption), (by assumption), ?_⟩) | (refine ⟨_, _, rfl, .inl (SqL.of (by assumption)), ?_⟩) | (refine ⟨_, _, _, _, _, rfl, (by assumption), (by assumption), (by assumption), (by rfl), ?_⟩) | (refine ⟨_, _, _, _, rfl, (by assumption), (by assumption), (by assumption), (Nat.le_of_ble_eq_true rfl), ?_⟩) | (refine And.intro (by first | assumption | rfl | (show (0:Int) < _; omega) | (show CDiv _ _; exact ⟨by omega, by omega⟩) | (show CMul _ _; first | exact .inl ⟨by omega, by omega⟩ | exact .inr ⟨by omega, by omega⟩) | (show CPow _ _; exact ⟨by omega, by omega, by omega⟩) | (show (_ : Nat) ≤ sizeLine; exact Nat.le_of_ble_eq_true rfl)) ?_) ))
    intro l fl
    have k1 : Kp [] H (upd H l (.lst (pool.map V.str))) := Kp.new fl
    have hl1 : StrL (upd H l (.lst (pool.map V.str))) l pool := upd_same
    have ha1 := StrL.same k1 ha
    have pen1 := pen.same k1
    generalize upd H l (.lst (pool.map V.str)) = H1 at *
    (repeat (first | (refine ⟨_, rfl, ?_⟩) | (refine ⟨_, _, rfl, rfl, ?_⟩) | (refine ⟨_, _, _, _, rfl, rfl, SqL.of (by assumption), (by rfl), ?_⟩) | (refine ⟨_, _, _, _, rfl, rfl, (by assumption), (by rfl), ?_⟩) | (refine ⟨_, _, _, _, rfl, rfl, SqL.of (by assumption), (by assumption), ?_⟩) | (refine ⟨_, _, rfl, .inl (SqL.of (by assumption)), ?_⟩) | (refine ⟨_, _, _, _, _, rfl, (by assumption), (by assumption), (by assumption), (by rfl), ?_⟩) | (refine ⟨_, _, _, _, rfl, (by assumption), (by assumption), (by assumption), (Nat.le_of_ble_eq_true rfl), ?_⟩) | (refine And.intro (by first | assumption | rfl | (show (0:Int) < _; omega) | (show CDiv _ _; exact ⟨by omega, by omega⟩) | (show CMul _ _; first | exact .inl ⟨by omega, by omega⟩ | exact .inr ⟨by omega, by omega⟩) | (show CPow _ _; exact ⟨by omega, by omega, by omega⟩) | (show (_ : Nat) ≤ sizeLine; exact Nat.le_of_ble_eq_true rfl)) ?_) ))
    refine ⟨_, _, rfl, ?_⟩
    (repeat (first | (refine ⟨_, rfl, ?_⟩) | (refine ⟨_, _, rfl, rfl, ?_⟩) | (refine ⟨_, _, _, _, rfl, rfl, SqL.of (by assumption), (by rfl), ?_⟩) | (refine ⟨_, _, _, _, rfl, rfl, (by assumption), (by rfl), ?_⟩) | (refine ⟨_, _, _, _, rfl, rfl, SqL.of (by assumption), (by assumption), ?_⟩) | (refine ⟨_, _, rfl, .inl (SqL.of (by assumption)), ?_⟩) | (refine ⟨_, _, _, _, _, rfl, (by assumption), (by assumption), (by assumption), (by rfl), ?_⟩) | (refine ⟨_, _, _, _, rfl, (by assumption), (by assumption), (by assumption), (Nat.le_of_ble_eq_true rfl), ?_⟩) | (refine And.intro (by first | assumption | rfl | (show (0:Int) < _; omega) | (show CDiv _ _; exact ⟨by omega, by omega⟩) | (show CMul _ _; first | exact .inl ⟨by omega, by omega⟩ | exact .inr ⟨by omega, by omega⟩) | (show CPow _ _; exact ⟨by omega, by omega, by omega⟩) | (show (_ : Nat) ≤ sizeLine; exact Nat.le_of_ble_eq_true rfl)) ?_) ))
    have em : ((pool.map V.str).length : Int) = pool.length := by rw [List.length_map]
    rw [em]
    generalize eM : (if (pool.length : Int) < most then (pool.length : Int) else most) = M
    have hM : least ≤ M ∧ M ≤ most ∧ M ≤ pool.length := by rw [← eM]; split <;> omega
    clear eM em
    refine ⟨p, c, _, n, rfl, pen1, by omega, by omega, by omega, fun d H2 d0 d1 kq pen2 => ?_⟩
    (repeat (first | (refine ⟨_, rfl, ?_⟩) | (refine ⟨_, _, rfl, rfl, ?_⟩) | (refine ⟨_, _, _, _, rfl, rfl, SqL.of (by assumption), (by rfl), ?_⟩) | (refine ⟨_, _, _, _, rfl, rfl, (by assumption), (by rfl), ?_⟩) | (refine ⟨_, _, _, _, rfl, rfl, SqL.of (by assumption), (by assumption), ?_⟩) | (refine ⟨_, _, rfl, .inl (SqL.of (by assumption)), ?_⟩) | (refine ⟨_, _, _, _, _, rfl, (by assumption), (by assumption), (by assumption), (by rfl), ?_⟩) | (refine ⟨_, _, _, _, rfl, (by assumption), (by assumption), (by assumption), (Nat.le_of_ble_eq_true rfl), ?_⟩) | (refine And.intro (by first | assumption | rfl | (show (0:Int) < _; omega) | (show CDiv _ _; exact ⟨by omega, by omega⟩) | (show CMul _ _; first | exact .inl ⟨by omega, by omega⟩ | exact .inr ⟨by omega, by omega⟩) | (show CPow _ _; exact ⟨by omega, by omega, by omega⟩) | (show (_ : Nat) ≤ sizeLine; exact Nat.le_of_ble_eq_true rfl)) ?_) ))
    obtain ⟨m, hm⟩ := Int.eq_ofNat_of_zero_le (show 0 ≤ least + d by omega)
    rw [hm]
    refine ⟨by omega, by omega, ?_⟩
    intro D hD
    have e2 : Itr 0 (m : Int).toNat = Itr 0 m := rfl
    refine lc_pops (H0 := H) (l := l) (p := p) (c := c) (pool := pool) (n := 0) (m := m) (k0 := n + 1) (by omega) (by omega) (by omega) (by decide) (by decide) rfl rfl fl hD (k1.q.trans kq) (hl1.kq kq) (pen.le (by omega)) pen2 ?_
    intro zs left H3 h3 lz pm k3 pen3
    have pn := pm.length_eq
    rw [List.length_append] at pn
    refine k D zs H3 h3 (fun nd => ?_) (fun x hx => pm.subset (List.mem_append_left _ hx)) (by omega) (by omega) (by omega) k3 (pen3.le (by omega))
    exact (List.nodup_append.mp (pm.nodup_iff.mpr nd)).1
end
end K14

namespace K14
open PySem L2 GB G1 Tb TL
def pool15 : List Str := ["a", "b", "c0", "d_", "keys", "tables", "inn", "in_", "zzzzzzzz", "x9", "q_1", "sums", "merged", "e", "zero0"]
theorem pool_ok : ∀ x ∈ pool15, nameB x = true ∧ PyData.strOk x = true ∧ x ≠ "fresh" := by decide +kernel
theorem pool_nd : pool15.Nodup := by decide +kernel
def GoodNames (ys : List Str) : Prop := ys.Nodup ∧ ∀ x ∈ ys, nameB x = true ∧ PyData.strOk x = true ∧ x ≠ "fresh"
def spNames : Sp := fun vs H Q _ => ∃ (p c : Addr) (n : Int) (many : Nat), vs = [.ref p, .int many] ∧ Pen H p c n ∧ n ≤ 99900 ∧ 1 ≤ many ∧ many ≤ 8 ∧ ∀ r ys H', StrL H' r ys → ys.length = many → GoodNames ys → Kq H H' → Pen H' p c (n + 30) → Q (.ref r) H'
def qn (c : Nat) (tail : Str) : Str := ("q" : Str) ++ ⟨#[c]⟩ ++ tail
def joined (cs : List Nat) : Str := Txt.join "" (cs.map fun c => (⟨#[c]⟩ : Str))
theorem joinL_nil : ∀ l : List (List Nat), joinL [] l = l.flatten
  | [] => rfl
  | [p] => by simp [joinL]
  | p :: q :: r => by
    have ih := joinL_nil (q :: r)
    simp only [joinL, ih, List.nil_append, List.flatten_cons]
theorem tl_joined (cs : List Nat) : tl (joined cs) = cs := by
  unfold joined
  rw [join_eq, tl_join]
  have : tl ("" : Str) = [] := by decide +kernel
  rw [this, joinL_nil]
  induction cs with
  | nil => rfl
  | cons c cs ih => simpa [tl] using ih
theorem tl_qn (c : Nat) (t : Str) : tl (qn c t) = 113 :: c :: tl t := by
  unfold qn
  rw [tl_append, tl_append]
  have : tl ("q" : Str) = [113] := by decide +kernel
  rw [this]; rfl
theorem later_ok : ∀ c ∈ tl later, inS ⟨#[c]⟩ later = true ∧ c < 0x110000 := by decide +kernel
theorem words_q : ∀ x ∈ words, (tl x).head? ≠ some 113 := by decide +kernel
theorem qn_ok {c : Nat} {cs : List Nat} (hc : c ∈ tl later) (hcs : ∀ z ∈ cs, z ∈ tl later) (hl : cs.length ≤ 5) : nameB (qn c (joined cs)) = true ∧ PyData.strOk (qn c (joined cs)) = true ∧ qn c (joined cs) ≠ "fresh" := by
  have e : (qn c (joined cs)).cps.toList = 113 :: c :: cs := by have := tl_qn c (joined cs); rw [tl_joined] at this; exact this
  have q : 113 ∈ tl later := by decide +kernel
  have all : ∀ z ∈ (113 :: c :: cs), z ∈ tl later := by
    intro z hz
    rcases List.mem_cons.mp hz with rfl | hz
    · exact q
    · rcases List.mem_cons.mp hz with rfl | hz
      · exact hc
      · exact hcs z hz
  refine ⟨?_, ?_, ?_⟩
  · have h1 : (qn c (joined cs)).length = cs.length + 2 := by
      show (qn c (joined cs)).cps.size = _
      rw [← Array.length_toList, e]; simp
    have h2 : inV (.str (qn c (joined cs))) (words.map V.str) = false := by
      rw [inV_str]
      refine decide_eq_false fun hm => words_q _ hm ?_
      show (qn c (joined cs)).cps.toList.head? = _
      rw [e]; rfl
    have h3 : inS ⟨#[113]⟩ first = true := by decide +kernel
    unfold nameB
    rw [h2, h1, e]
    simp only [h3, Bool.and_eq_true, decide_eq_true_eq]
    refine ⟨⟨⟨by omega, rfl⟩, trivial⟩, List.all_eq_true.mpr fun z hz => (later_ok z (all z hz)).1⟩
  · unfold PyData.strOk
    rw [← Array.all_toList, e]
    exact List.all_eq_true.mpr fun z hz => decide_eq_true (later_ok z (all z hz)).2
  · intro z
    have z2 := congrArg (fun x : Str => (tl x).head?) z
    have z3 : (tl (qn c (joined cs))).head? = some 113 := by
      show (qn c (joined cs)).cps.toList.head? = _
      rw [e]; rfl
    have z4 : (tl ("fresh" : Str)).head? = some 102 := by decide +kernel
    simp only [z3, z4] at z2
    cases z2
theorem names_ok {cs : List Nat} (hcs : ∀ z ∈ cs, z ∈ tl later) (hl : cs.length ≤ 5) {m : Nat} (hm : m ≤ 8) : GoodNames ((List.range m).map fun i => qn ((tl later).getD i 0) (joined cs)) := by
  have ln : (tl later).length = 37 := by decide +kernel
  have nd : (tl later).Nodup := by decide +kernel
  constructor
  · have nd' : ∀ (i j : Nat) (hi : i < (tl later).length) (hj : j < (tl later).length), i < j → (tl later)[i] ≠ (tl later)[j] := List.pairwise_iff_getElem.mp nd
    refine List.pairwise_map.mpr ?_
    refine List.Pairwise.imp_of_mem ?_ (List.pairwise_lt_range (n := m))
    intro i j hi hj hij e
    have hi' := List.mem_range.mp hi
    have hj' := List.mem_range.mp hj
    have := congrArg tl e
    rw [tl_qn, tl_qn] at this
    simp only [List.cons.injEq, true_and, and_true] at this
    simp only [List.getD, List.getElem?_eq_getElem (show i < (tl later).length by omega), List.getElem?_eq_getElem (show j < (tl later).length by omega), Option.getD_some] at this
    exact nd' i j (by omega) (by omega) hij this
  · intro x hx
    obtain ⟨i, hi, rfl⟩ := List.mem_map.mp hx
    have hi' := List.mem_range.mp hi
    refine qn_ok ?_ hcs hl
    simp only [List.getD, List.getElem?_eq_getElem (show i < (tl later).length by omega), Option.getD_some]
    exact List.getElem_mem _
section
variable {P : Program} {w : World} {K : PySem.W.Frag} {mg : Str → Option Value} {base : Heap} {aW aP C dk dl : Addr}
theorem cNames (D : Dfn K mg "_law_names" s_law_names) (T : Txt K mg aW aP C) (cDraw : Cal P w K mg base 1 "_law_draw" spDraw) : Cal P w K mg base 2 "_law_names" spNames := by
  refine cal D sc_law_names (fun _ _ _ _ _ _ us hl => match us, hl with | [_, _], _ => rfl) (fun vs H Q E h => ?_) (fun f cdv A outer s H vs Q E hr h => ?_)
  · obtain ⟨p, c, n, m, rfl, _⟩ := h; rfl
  · obtain ⟨p, c, n, m, rfl, pen, hn, m1, m8, k⟩ := h
    refine ⟨_, (pss_cons (ps_set (i := 2) sc_law_names.nd rfl (Or.inr rfl) (pe_lst (pa_cons pe_str (pa_cons pe_str (pa_cons pe_str (pa_cons pe_str (pa_cons pe_str (pa_cons pe_str (pa_cons pe_str (pa_cons pe_str (pa_cons pe_str (pa_cons pe_str (pa_cons pe_str pa_nil)))))))))))))
      (pss_cons (ps_set (i := 2) sc_law_names.nd rfl (Or.inr rfl) (pe_op op_cat (pv 2) (pe_lst (pa_cons pe_str (pa_cons pe_str (pa_cons pe_str (pa_cons pe_str pa_nil)))))))
      (pss_cons (ps_setLc (i := 3) (own := [("_law_turn", 6)]) (by rfl) sc_law_names.nd rfl rfl (sw_true rfl rfl rfl (by decide +kernel)) (pi_range1 (by rfl) T.n_range (pa_cons (pv 1) pa_nil)) (blkOk_by (own := [("_law_turn", 6)]) (N := N_law_names) (sc := defScope s_law_names) (by decide +kernel)) (fun _ _ _ _ _ => pg_name (i := 6) sc_law_names.nd rfl (Or.inl rfl)) (fun _ _ _ _ _ => pts_nil) (fun _ _ _ _ _ => pe_bmK (K := K) rfl PySem.F.plainAttrs_list PySem.F.slot_list_pop PySem.F.type_list_pop mt_popAt (pv 2) (pa_cons (pe_c cDraw hr (by decide) (by rfl) (pa_cons (pv 0) (pa_cons (pe_callB (call_len_seqK (K := K)) (by rfl) T.n_len (by decide +kernel) (pa_cons (pv 2) pa_nil)) pa_nil))) pa_nil)))
      (pss_cut (ps_if (pt_cmpR op_eq (pe_c cDraw hr (by decide) (by rfl) (pa_cons (pv 0) (pa_cons pe_int pa_nil))) pe_int (nomark _)) (pss_cons (ps_set (i := 4) sc_law_names.nd rfl (Or.inr rfl) (pe_str))
      (pss_cons (ps_set (i := 5) sc_law_names.nd rfl (Or.inr rfl) (pe_join pe_str (pe_lc (own := [("_law_turn", 6)]) (by rfl) sc_law_names.nd (pi_range1 (by rfl) T.n_range (pa_cons (pe_c cDraw hr (by decide) (by rfl) (pa_cons (pv 0) (pa_cons pe_int pa_nil))) pa_nil)) (blkOk_by (own := [("_law_turn", 6)]) (N := N_law_names) (sc := defScope s_law_names) (by decide +kernel)) (fun _ _ _ _ _ => pg_name (i := 6) sc_law_names.nd rfl (Or.inl rfl)) (fun _ _ _ _ _ => pts_nil) (fun _ _ _ _ _ => pe_ix ix_str (pv 4) (pe_c cDraw hr (by decide) (by rfl) (pa_cons (pv 0) (pa_cons pe_int pa_nil))) (fun _ _ => rfl)))))
      (pss_one (ps_setLc (i := 3) (own := [("_law_k", 7)]) (by rfl) sc_law_names.nd rfl rfl (sw_true rfl rfl rfl (by decide +kernel)) (pi_range1 (by rfl) T.n_range (pa_cons (pv 1) pa_nil)) (blkOk_by (own := [("_law_k", 7)]) (N := N_law_names) (sc := defScope s_law_names) (by decide +kernel)) (fun _ _ _ _ _ => pg_name (i := 7) sc_law_names.nd rfl (Or.inl rfl)) (fun _ _ _ _ _ => pts_nil) (fun _ _ _ _ _ => pe_op op_add_str (pe_op op_add_str pe_str (pe_ix ix_str (pv 4) (pv 7) (fun _ _ => rfl))) (pv 5)))))) pss_nil)
      (pss_one (ps_ret (pv 3))))))), ?_⟩
    show (_ : TS) _ [some (V.ref p), some (V.int m), none, none, none, none, none, none] H
    have kp : Kp [] H H := Kp.refl _ _
    (repeat (first | (refine ⟨_, rfl, ?_⟩) | (refine ⟨_, _, rfl, rfl, ?_⟩) | (refine ⟨_, _, _, _, rfl, rfl, SqL.of (by assumption), (by rfl), ?_⟩) | (refine ⟨_, _, _, _, rfl, rfl, (by assumption), (by rfl), ?_⟩) | (refine ⟨_, _, _, _, rfl, rfl, SqL.of (by assumption), (by assumption), ?_⟩) | (refine ⟨_, _, rfl, .inl (SqL.of (by assumption)), ?_⟩) | (refine ⟨_, _, _, _, _, rfl, (by assumption), (by assumption), (by assumption), (by rfl), ?_⟩) | (refine ⟨_, _, _, _, rfl, (by assumption), (by assumption), (by assumption), (Nat.le_of_ble_eq_true rfl), ?_⟩) | (refine And.intro (by first | assumption | rfl | (show (0:Int) < _; omega) | (show CDiv _ _; exact ⟨by omega, by omega⟩) | (show CMul _ _; first | exact .inl ⟨by omega, by omega⟩ | exact .inr ⟨by omega, by omega⟩) | (show CPow _ _; exact ⟨by omega, by omega, by omega⟩) | (show (_ : Nat) ≤ sizeLine; exact Nat.le_of_ble_eq_true rfl)) ?_) ))
    (intro a ha; generalize eH : upd H a _ = H1; have k12 : Kp [] H H1 := eH ▸ Kp.new ha; replace ha := (congrFun eH.symm a).trans upd_same; clear eH; replace pen := Pen.same k12 pen; replace kp := kp.trans (k12.mono (fun _ z => nomatch z)); clear k12)
    (repeat (first | (refine ⟨_, rfl, ?_⟩) | (refine ⟨_, _, rfl, rfl, ?_⟩) | (refine ⟨_, _, _, _, rfl, rfl, SqL.of (by assumption), (by rfl), ?_⟩) | (refine ⟨_, _, _, _, rfl, rfl, (by assumption), (by rfl), ?_⟩) | (refine ⟨_, _, _, _, rfl, rfl, SqL.of (by assumption), (by assumption), ?_⟩) | (refine ⟨_, _, rfl, .inl (SqL.of (by assumption)), ?_⟩) | (refine ⟨_, _, _, _, _, rfl, (by assumption), (by assumption), (by assumption), (by rfl), ?_⟩) | (refine ⟨_, _, _, _, rfl, (by assumption), (by assumption), (by assumption), (Nat.le_of_ble_eq_true rfl), ?_⟩) | (refine And.intro (by first | assumption | rfl | (show (0:Int) < _; omega) | (show CDiv _ _; exact ⟨by omega, by omega⟩) | (show CMul _ _; first | exact .inl ⟨by omega, by omega⟩ | exact .inr ⟨by omega, by omega⟩) | (show CPow _ _; exact ⟨by omega, by omega, by omega⟩) | (show (_ : Nat) ≤ sizeLine; exact Nat.le_of_ble_eq_true rfl)) ?_) ))
    (intro b hb; generalize eH : upd H1 b _ = H2; have k12 : Kp [] H1 H2 := eH ▸ Kp.new hb; replace hb := (congrFun eH.symm b).trans upd_same; clear eH; replace pen := Pen.same k12 pen; replace ha := k12.same _ _ ha; replace kp := kp.trans (k12.mono (fun _ z => nomatch z)); clear k12)
    refine ⟨_, _, _, _, rfl, rfl, ha, hb, by decide, ?_⟩
    intro l fl
    have k3 : Kp [] H2 (upd H2 l (.lst (pool15.map V.str))) := Kp.new fl
    have hl : StrL (upd H2 l (.lst (pool15.map V.str))) l pool15 := upd_same
    have pen3 := pen.same k3
    show _
    generalize eH : upd H2 l _ = H3
    replace eH : upd H2 l (.lst (pool15.map V.str)) = H3 := eH
    rw [eH] at k3 hl pen3
    clear eH ha hb
    (repeat (first | (refine ⟨_, rfl, ?_⟩) | (refine ⟨_, _, rfl, rfl, ?_⟩) | (refine ⟨_, _, _, _, rfl, rfl, SqL.of (by assumption), (by rfl), ?_⟩) | (refine ⟨_, _, _, _, rfl, rfl, (by assumption), (by rfl), ?_⟩) | (refine ⟨_, _, _, _, rfl, rfl, SqL.of (by assumption), (by assumption), ?_⟩) | (refine ⟨_, _, rfl, .inl (SqL.of (by assumption)), ?_⟩) | (refine ⟨_, _, _, _, _, rfl, (by assumption), (by assumption), (by assumption), (by rfl), ?_⟩) | (refine ⟨_, _, _, _, rfl, (by assumption), (by assumption), (by assumption), (Nat.le_of_ble_eq_true rfl), ?_⟩) | (refine And.intro (by first | assumption | rfl | (show (0:Int) < _; omega) | (show CDiv _ _; exact ⟨by omega, by omega⟩) | (show CMul _ _; first | exact .inl ⟨by omega, by omega⟩ | exact .inr ⟨by omega, by omega⟩) | (show CPow _ _; exact ⟨by omega, by omega, by omega⟩) | (show (_ : Nat) ≤ sizeLine; exact Nat.le_of_ble_eq_true rfl)) ?_) ))
    refine ⟨by omega, by omega, ?_⟩
    intro D hD
    refine lc_pops (H0 := H2) (l := l) (p := p) (c := c) (pool := pool15) (n := 0) (m := m) (k0 := n) (by have : pool15.length = 15 := rfl; omega) (by decide) (by omega) (by decide) (by decide) rfl rfl fl hD k3.q hl pen pen3 ?_
    intro zs left H4 h4 lz pm k4 pen4
    have gz : GoodNames zs := ⟨(List.nodup_append.mp (pm.nodup_iff.mpr pool_nd)).1, fun x hx => pool_ok x (pm.subset (List.mem_append_left _ hx))⟩
    replace k4 := kp.q.trans k4
    clear pm kp pen3 hl k3 pen
    refine ⟨fun σ' H' => ∃ (r : Addr) (ys : List Str) (u1 u2 : Option V), σ' = [some (V.ref p), some (V.int m), some (V.ref l), some (V.ref r), u1, u2, none, none] ∧ StrL H' r ys ∧ ys.length = m ∧ GoodNames ys ∧ Kq H H' ∧ Pen H' p c (n + 30), ?_, ?_⟩
    · (repeat (first | (refine ⟨_, rfl, ?_⟩) | (refine ⟨_, _, rfl, rfl, ?_⟩) | (refine ⟨_, _, _, _, rfl, rfl, SqL.of (by assumption), (by rfl), ?_⟩) | (refine ⟨_, _, _, _, rfl, rfl, (by assumption), (by rfl), ?_⟩) | (refine ⟨_, _, _, _, rfl, rfl, SqL.of (by assumption), (by assumption), ?_⟩) | (refine ⟨_, _, rfl, .inl (SqL.of (by assumption)), ?_⟩) | (refine ⟨_, _, _, _, _, rfl, (by assumption), (by assumption), (by assumption), (by rfl), ?_⟩) | (refine ⟨_, _, _, _, rfl, (by assumption), (by assumption), (by assumption), (Nat.le_of_ble_eq_true rfl), ?_⟩) | (refine And.intro (by first | assumption | rfl | (show (0:Int) < _; omega) | (show CDiv _ _; exact ⟨by omega, by omega⟩) | (show CMul _ _; first | exact .inl ⟨by omega, by omega⟩ | exact .inr ⟨by omega, by omega⟩) | (show CPow _ _; exact ⟨by omega, by omega, by omega⟩) | (show (_ : Nat) ≤ sizeLine; exact Nat.le_of_ble_eq_true rfl)) ?_) ))
      refine ⟨p, c, _, n + m, rfl, pen4, by decide, by decide, by omega, fun d1 H5 a0 a1 k5 pen5 => ?_⟩
      (repeat (first | (refine ⟨_, rfl, ?_⟩) | (refine ⟨_, _, rfl, rfl, ?_⟩) | (refine ⟨_, _, _, _, rfl, rfl, SqL.of (by assumption), (by rfl), ?_⟩) | (refine ⟨_, _, _, _, rfl, rfl, (by assumption), (by rfl), ?_⟩) | (refine ⟨_, _, _, _, rfl, rfl, SqL.of (by assumption), (by assumption), ?_⟩) | (refine ⟨_, _, rfl, .inl (SqL.of (by assumption)), ?_⟩) | (refine ⟨_, _, _, _, _, rfl, (by assumption), (by assumption), (by assumption), (by rfl), ?_⟩) | (refine ⟨_, _, _, _, rfl, (by assumption), (by assumption), (by assumption), (Nat.le_of_ble_eq_true rfl), ?_⟩) | (refine And.intro (by first | assumption | rfl | (show (0:Int) < _; omega) | (show CDiv _ _; exact ⟨by omega, by omega⟩) | (show CMul _ _; first | exact .inl ⟨by omega, by omega⟩ | exact .inr ⟨by omega, by omega⟩) | (show CPow _ _; exact ⟨by omega, by omega, by omega⟩) | (show (_ : Nat) ≤ sizeLine; exact Nat.le_of_ble_eq_true rfl)) ?_) ))
      refine ite2 (fun g => ?_) (fun g => ?_)
      · show tSeq _ _ _ _ _
        refine ⟨⟨_, rfl⟩, ?_⟩
        refine ⟨_, rfl, ?_⟩
        (repeat (first | (refine ⟨_, rfl, ?_⟩) | (refine ⟨_, _, rfl, rfl, ?_⟩) | (refine ⟨_, _, _, _, rfl, rfl, SqL.of (by assumption), (by rfl), ?_⟩) | (refine ⟨_, _, _, _, rfl, rfl, (by assumption), (by rfl), ?_⟩) | (refine ⟨_, _, _, _, rfl, rfl, SqL.of (by assumption), (by assumption), ?_⟩) | (refine ⟨_, _, rfl, .inl (SqL.of (by assumption)), ?_⟩) | (refine ⟨_, _, _, _, _, rfl, (by assumption), (by assumption), (by assumption), (by rfl), ?_⟩) | (refine ⟨_, _, _, _, rfl, (by assumption), (by assumption), (by assumption), (Nat.le_of_ble_eq_true rfl), ?_⟩) | (refine And.intro (by first | assumption | rfl | (show (0:Int) < _; omega) | (show CDiv _ _; exact ⟨by omega, by omega⟩) | (show CMul _ _; first | exact .inl ⟨by omega, by omega⟩ | exact .inr ⟨by omega, by omega⟩) | (show CPow _ _; exact ⟨by omega, by omega, by omega⟩) | (show (_ : Nat) ≤ sizeLine; exact Nat.le_of_ble_eq_true rfl)) ?_) ))
        refine ⟨p, c, _, n + m + 1, rfl, pen5, by decide, by decide, by omega, fun d2 H6 b0 b1 k6 pen6 => ?_⟩
        obtain ⟨m2, rfl⟩ := Int.eq_ofNat_of_zero_le b0
        (repeat (first | (refine ⟨_, rfl, ?_⟩) | (refine ⟨_, _, rfl, rfl, ?_⟩) | (refine ⟨_, _, _, _, rfl, rfl, SqL.of (by assumption), (by rfl), ?_⟩) | (refine ⟨_, _, _, _, rfl, rfl, (by assumption), (by rfl), ?_⟩) | (refine ⟨_, _, _, _, rfl, rfl, SqL.of (by assumption), (by assumption), ?_⟩) | (refine ⟨_, _, rfl, .inl (SqL.of (by assumption)), ?_⟩) | (refine ⟨_, _, _, _, _, rfl, (by assumption), (by assumption), (by assumption), (by rfl), ?_⟩) | (refine ⟨_, _, _, _, rfl, (by assumption), (by assumption), (by assumption), (Nat.le_of_ble_eq_true rfl), ?_⟩) | (refine And.intro (by first | assumption | rfl | (show (0:Int) < _; omega) | (show CDiv _ _; exact ⟨by omega, by omega⟩) | (show CMul _ _; first | exact .inl ⟨by omega, by omega⟩ | exact .inr ⟨by omega, by omega⟩) | (show CPow _ _; exact ⟨by omega, by omega, by omega⟩) | (show (_ : Nat) ≤ sizeLine; exact Nat.le_of_ble_eq_true rfl)) ?_) ))
        refine ⟨by omega, by omega, ?_⟩
        intro D2 hD2
        have en : (m2 : Int).toNat = m2 := rfl
        rw [en]
        have D0 : ∀ {o}, Kq H6 (upd H6 D2 o) := Kq.new hD2
        have pD := pen6.nep hD2
        refine lc_acc walk_range (fun i ys H' => ∃ cs : List Nat, ys = cs.map (fun c => V.str ⟨#[c]⟩) ∧ (∀ z ∈ cs, z ∈ tl later) ∧ Pen H' p c (n + m + 2 + i) ∧ Kq H6 H') ⟨[], rfl, by simp, (pen6.put pD).le (by omega), D0⟩ (fun _ _ _ _ _ _ _ => trivial) ?_ ?_
        · rintro i _ ys H7 _ hi ly hD7 ⟨cs, rfl, hcs, pen7, k7⟩ ⟨rfl, rfl⟩
          (repeat (first | (refine ⟨_, rfl, ?_⟩) | (refine ⟨_, _, rfl, rfl, ?_⟩) | (refine ⟨_, _, _, _, rfl, rfl, SqL.of (by assumption), (by rfl), ?_⟩) | (refine ⟨_, _, _, _, rfl, rfl, (by assumption), (by rfl), ?_⟩) | (refine ⟨_, _, _, _, rfl, rfl, SqL.of (by assumption), (by assumption), ?_⟩) | (refine ⟨_, _, rfl, .inl (SqL.of (by assumption)), ?_⟩) | (refine ⟨_, _, _, _, _, rfl, (by assumption), (by assumption), (by assumption), (by rfl), ?_⟩) | (refine ⟨_, _, _, _, rfl, (by assumption), (by assumption), (by assumption), (Nat.le_of_ble_eq_true rfl), ?_⟩) | (refine And.intro (by first | assumption | rfl | (show (0:Int) < _; omega) | (show CDiv _ _; exact ⟨by omega, by omega⟩) | (show CMul _ _; first | exact .inl ⟨by omega, by omega⟩ | exact .inr ⟨by omega, by omega⟩) | (show CPow _ _; exact ⟨by omega, by omega, by omega⟩) | (show (_ : Nat) ≤ sizeLine; exact Nat.le_of_ble_eq_true rfl)) ?_) ))
          refine ⟨p, c, _, n + m + 2 + i, rfl, pen7, by decide, by decide, by omega, fun d3 H8 c0 c1 k8 pen8 => ?_⟩
          obtain ⟨j, rfl⟩ := Int.eq_ofNat_of_zero_le c0
          have ln : (tl later).length = 37 := by decide +kernel
          have hj : j < (tl later).length := by omega
          refine ⟨later, _, (tl later)[j], rfl, rfl, by decide +kernel, atI_nat (List.getElem?_eq_getElem hj), ?_⟩
          have lz2 : cs.length = i := by simpa using ly
          have sh : penShape (.lst (cs.map fun c => V.str ⟨#[c]⟩)) = false := by
            cases cs <;> rfl
          refine acc_to (k8.keep _ _ sh hD7) (by simpa using lz2) (Nat.lt_of_lt_of_le (by omega : i < 1001) (by decide)) ?_
          refine ⟨cs ++ [(tl later)[j]], by simp, ?_, ?_, Kq.putNew (k7.trans k8) hD2⟩
          · intro z hz
            rcases List.mem_append.mp hz with hz | hz
            · exact hcs z hz
            · rw [List.mem_singleton.mp hz]; exact List.getElem_mem _
          · exact (pen8.put pD).le (by omega)
        · rintro ys H7 ly hD7 ⟨cs, rfl, hcs, pen7, k7⟩
          have lc : cs.length = m2 := by simpa using ly
          refine ⟨_, _, cs.map (fun c => (⟨#[c]⟩ : Str)), rfl, rfl, .inl (SqL.of (by rw [hD7, List.map_map]; rfl)), ?_, ?_⟩
          · have h1 := sum_le8 (cs.map fun c => (⟨#[c]⟩ : Str)) (fun x hx => by obtain ⟨c, _, rfl⟩ := List.mem_map.mp hx; show 1 ≤ 8; omega)
            have h2 : Str.length ("" : Str) = 0 := by decide +kernel
            rw [h2]
            rw [List.length_map] at h1 ⊢
            omega
          · have lj : (joined cs).length ≤ 5 := by
              show (joined cs).cps.size ≤ 5
              rw [← Array.length_toList]
              show (tl (joined cs)).length ≤ 5
              rw [tl_joined]; omega
            show _
            (repeat (first | (refine ⟨_, rfl, ?_⟩) | (refine ⟨_, _, rfl, rfl, ?_⟩) | (refine ⟨_, _, _, _, rfl, rfl, SqL.of (by assumption), (by rfl), ?_⟩) | (refine ⟨_, _, _, _, rfl, rfl, (by assumption), (by rfl), ?_⟩) | (refine ⟨_, _, _, _, rfl, rfl, SqL.of (by assumption), (by assumption), ?_⟩) | (refine ⟨_, _, rfl, .inl (SqL.of (by assumption)), ?_⟩) | (refine ⟨_, _, _, _, _, rfl, (by assumption), (by assumption), (by assumption), (by rfl), ?_⟩) | (refine ⟨_, _, _, _, rfl, (by assumption), (by assumption), (by assumption), (Nat.le_of_ble_eq_true rfl), ?_⟩) | (refine And.intro (by first | assumption | rfl | (show (0:Int) < _; omega) | (show CDiv _ _; exact ⟨by omega, by omega⟩) | (show CMul _ _; first | exact .inl ⟨by omega, by omega⟩ | exact .inr ⟨by omega, by omega⟩) | (show CPow _ _; exact ⟨by omega, by omega, by omega⟩) | (show (_ : Nat) ≤ sizeLine; exact Nat.le_of_ble_eq_true rfl)) ?_) ))
            refine ⟨by omega, by omega, ?_⟩
            intro D3 hD3
            have en : (m : Int).toNat = m := rfl
            rw [en]
            refine lc_map (f := fun i => V.str (qn ((tl later).getD i 0) (joined cs))) walk_range (Nat.le_trans m8 (by decide)) hD3 (fun _ _ => trivial) ?_ ?_
            · rintro i _ H8 _ hi h0 k8 ⟨rfl, rfl⟩
              have ln : (tl later).length = 37 := by decide +kernel
              have hj : i < (tl later).length := by omega
              (repeat (first | (refine ⟨_, rfl, ?_⟩) | (refine ⟨_, _, rfl, rfl, ?_⟩) | (refine ⟨_, _, _, _, rfl, rfl, SqL.of (by assumption), (by rfl), ?_⟩) | (refine ⟨_, _, _, _, rfl, rfl, (by assumption), (by rfl), ?_⟩) | (refine ⟨_, _, _, _, rfl, rfl, SqL.of (by assumption), (by assumption), ?_⟩) | (refine ⟨_, _, rfl, .inl (SqL.of (by assumption)), ?_⟩) | (refine ⟨_, _, _, _, _, rfl, (by assumption), (by assumption), (by assumption), (by rfl), ?_⟩) | (refine ⟨_, _, _, _, rfl, (by assumption), (by assumption), (by assumption), (Nat.le_of_ble_eq_true rfl), ?_⟩) | (refine And.intro (by first | assumption | rfl | (show (0:Int) < _; omega) | (show CDiv _ _; exact ⟨by omega, by omega⟩) | (show CMul _ _; first | exact .inl ⟨by omega, by omega⟩ | exact .inr ⟨by omega, by omega⟩) | (show CPow _ _; exact ⟨by omega, by omega, by omega⟩) | (show (_ : Nat) ≤ sizeLine; exact Nat.le_of_ble_eq_true rfl)) ?_) ))
              refine ⟨later, _, (tl later)[i], rfl, rfl, by decide +kernel, by rw [Int.zero_add]; exact atI_nat (List.getElem?_eq_getElem hj), ?_⟩
              refine ⟨_, _, rfl, rfl, (Nat.le_of_ble_eq_true rfl), ?_⟩
              refine ⟨_, rfl, ?_⟩
              refine ⟨_, joined cs, rfl, rfl, ?_, ?_⟩
              · have : (("q" : Str) ++ (⟨#[(tl later)[i]]⟩ : Str)).length = 2 := by rw [len_tl, tl_append]; rfl
                rw [this]; exact Nat.le_trans (m := 100) (by omega) (by decide)
              · refine map_to hD3 h0 k8 (Kp.refl _ _) (Nat.lt_of_lt_of_le (by omega : i < 1001) (by decide)) ?_
                simp only [List.getD, List.getElem?_eq_getElem hj, Option.getD_some]
                rfl
            · intro H8 h8 k8
              exact ⟨D3, _, _, _, rfl, by rw [StrL, h8, List.map_map]; rfl, by simp, names_ok hcs (by omega) m8, ((((k4.trans k5).trans k6).trans k7).trans k8.q), (pen7.same k8).le (by omega)⟩
      · exact ⟨D, zs, _, _, rfl, h4.kq k5, lz, gz, k4.trans k5, pen5.le (by omega)⟩
    · rintro _ H5 ⟨r, ys, u1, u2, rfl, h5, l5, g5, k5, pen5⟩
      (repeat (first | (refine ⟨_, rfl, ?_⟩) | (refine ⟨_, _, rfl, rfl, ?_⟩) | (refine ⟨_, _, _, _, rfl, rfl, SqL.of (by assumption), (by rfl), ?_⟩) | (refine ⟨_, _, _, _, rfl, rfl, (by assumption), (by rfl), ?_⟩) | (refine ⟨_, _, _, _, rfl, rfl, SqL.of (by assumption), (by assumption), ?_⟩) | (refine ⟨_, _, rfl, .inl (SqL.of (by assumption)), ?_⟩) | (refine ⟨_, _, _, _, _, rfl, (by assumption), (by assumption), (by assumption), (by rfl), ?_⟩) | (refine ⟨_, _, _, _, rfl, (by assumption), (by assumption), (by assumption), (Nat.le_of_ble_eq_true rfl), ?_⟩) | (refine And.intro (by first | assumption | rfl | (show (0:Int) < _; omega) | (show CDiv _ _; exact ⟨by omega, by omega⟩) | (show CMul _ _; first | exact .inl ⟨by omega, by omega⟩ | exact .inr ⟨by omega, by omega⟩) | (show CPow _ _; exact ⟨by omega, by omega, by omega⟩) | (show (_ : Nat) ≤ sizeLine; exact Nat.le_of_ble_eq_true rfl)) ?_) ))
      exact k r ys H5 h5 l5 g5 k5 pen5
end
end K14

namespace K14
open PySem L2 GB G1 Tb TL
def GoodCols (cols : List Str) : Prop := GoodNames cols ∧ 1 ≤ cols.length ∧ cols.length ≤ 8
def ColsOk (cols : List Str) : Prop := cols.Nodup ∧ (∀ x ∈ cols, nameB x = true ∧ PyData.strOk x = true) ∧ 1 ≤ cols.length ∧ cols.length ≤ 8
theorem GoodCols.ok {cols : List Str} (h : GoodCols cols) : ColsOk cols := ⟨h.1.1, fun x hx => ⟨(h.1.2 x hx).1, (h.1.2 x hx).2.1⟩, h.2⟩
theorem BOk.cols {b : Bare} (h : BOk b) : ColsOk b.cols := ⟨h.cu, fun x hx => ⟨h.cn x hx, h.sok.cols x hx⟩, h.cl⟩
def spLie (K : PySem.W.Frag) : Sp := fun vs H Q _ => ∃ (p c a : Addr) (n : Int) (cols : List Str), vs = [.ref p, .ref a] ∧ Pen H p c n ∧ n ≤ 99800 ∧ StrL H a cols ∧ ColsOk cols ∧
  ∀ v l H', LieAt K H' v l → l.sok → LieOk cols l → Kq H H' → Pen H' p c (n + 70) → Q v H'
section
variable {P : Program} {w : World} {K : PySem.W.Frag} {mg : Str → Option Value} {base : Heap} {aW aP C dk dl : Addr}
theorem ruleB : ∀ x ∈ (["r", "a", "rule_2"] : List Str), nameB x = true ∧ PyData.strOk x = true := by decide +kernel
theorem cLie (D : Dfn K mg "_law_lie" s_law_lie) (T : Txt K mg aW aP C) (cPick : Cal P w K mg base 2 "_law_pick" (spPick K)) (cSome : Cal P w K mg base 2 "_law_some" spSome) : Cal P w K mg base 3 "_law_lie" (spLie K) := by
  refine cal D sc_law_lie (fun _ _ _ _ _ _ us hl => match us, hl with | [_, _], _ => rfl) (fun vs H Q E h => ?_) (fun f cdv A outer s H vs Q E hr h => ?_)
  · obtain ⟨p, c, a, n, cols, rfl, _⟩ := h; rfl
  · obtain ⟨p, c, a, n, cols, rfl, pen, hn, ha, ⟨nd, gn, c1, c8⟩, k⟩ := h
    refine ⟨_, (pss_cons (ps_set (i := 2) sc_law_lie.nd rfl (Or.inl rfl) (pe_tup (pa_cons pe_str (pa_cons (pe_c cPick hr (by decide) (by rfl) (pa_cons (pv 0) (pa_cons (pe_lst (pa_cons pe_str (pa_cons pe_str (pa_cons pe_str pa_nil)))) pa_nil))) (pa_cons (pe_callTy call_tuple_of (by rfl) T.n_tuple (by decide +kernel) (pa_cons (pe_c cSome hr (by decide) (by rfl) (pa_cons (pv 0) (pa_cons (pv 1) (pa_cons pe_int (pa_cons pe_int pa_nil))))) pa_nil)) pa_nil)))))
      (pss_one (ps_ret (pe_c cPick hr (by decide) (by rfl) (pa_cons (pv 0) (pa_cons (pe_lst (pa_cons (pe_tup (pa_cons pe_str pa_nil)) (pa_cons (pe_tup (pa_cons pe_str pa_nil)) (pa_cons (pe_tup (pa_cons pe_str pa_nil)) (pa_cons (pv 2) (pa_cons (pv 2) pa_nil)))))) pa_nil)))))), ?_⟩
    show (_ : TS) _ [some (V.ref p), some (V.ref a), none] H
    have kp : Kp [] H H := Kp.refl _ _
    (repeat (first | (refine ⟨_, rfl, ?_⟩) | (refine ⟨_, _, rfl, rfl, ?_⟩) | (refine ⟨_, _, _, _, rfl, rfl, SqL.of (by assumption), (by rfl), ?_⟩) | (refine ⟨_, _, _, _, rfl, rfl, (by assumption), (by rfl), ?_⟩) | (refine ⟨_, _, _, _, rfl, rfl, SqL.of (by assumption), (by assumption), ?_⟩) | (refine ⟨_, _, rfl, .inl (SqL.of (by assumption)), ?_⟩) | (refine ⟨_, _, _, _, _, rfl, (by assumption), (by assumption), (by assumption), (by rfl), ?_⟩) | (refine ⟨_, _, _, _, rfl, (by assumption), (by assumption), (by assumption), (Nat.le_of_ble_eq_true rfl), ?_⟩) | (refine And.intro (by first | assumption | rfl | (show (0:Int) < _; omega) | (show CDiv _ _; exact ⟨by omega, by omega⟩) | (show CMul _ _; first | exact .inl ⟨by omega, by omega⟩ | exact .inr ⟨by omega, by omega⟩) | (show CPow _ _; exact ⟨by omega, by omega, by omega⟩) | (show (_ : Nat) ≤ sizeLine; exact Nat.le_of_ble_eq_true rfl)) ?_) ))
    (intro b hb; generalize eH : upd H b _ = H1; have k12 : Kp [] H H1 := eH ▸ Kp.new hb; replace hb := (congrFun eH.symm b).trans upd_same; clear eH; replace pen := Pen.same k12 pen; replace ha := StrL.same k12 ha; replace kp := kp.trans (k12.mono (fun _ z => nomatch z)); clear k12)
    refine ⟨p, c, b, n, _, rfl, pen, by omega, hb, rfl, by simp, by decide, fun v H2 hv k2 pen2 => ?_⟩
    obtain ⟨r, hr', rfl⟩ : ∃ r, r ∈ (["r", "a", "rule_2"] : List Str) ∧ v = .str r := by
      have : v ∈ (["r", "a", "rule_2"] : List Str).map V.str := hv
      obtain ⟨r, h1, h2⟩ := List.mem_map.mp this
      exact ⟨r, h1, h2.symm⟩
    replace ha := ha.kq k2
    (repeat (first | (refine ⟨_, rfl, ?_⟩) | (refine ⟨_, _, rfl, rfl, ?_⟩) | (refine ⟨_, _, _, _, rfl, rfl, SqL.of (by assumption), (by rfl), ?_⟩) | (refine ⟨_, _, _, _, rfl, rfl, (by assumption), (by rfl), ?_⟩) | (refine ⟨_, _, _, _, rfl, rfl, SqL.of (by assumption), (by assumption), ?_⟩) | (refine ⟨_, _, rfl, .inl (SqL.of (by assumption)), ?_⟩) | (refine ⟨_, _, _, _, _, rfl, (by assumption), (by assumption), (by assumption), (by rfl), ?_⟩) | (refine ⟨_, _, _, _, rfl, (by assumption), (by assumption), (by assumption), (Nat.le_of_ble_eq_true rfl), ?_⟩) | (refine And.intro (by first | assumption | rfl | (show (0:Int) < _; omega) | (show CDiv _ _; exact ⟨by omega, by omega⟩) | (show CMul _ _; first | exact .inl ⟨by omega, by omega⟩ | exact .inr ⟨by omega, by omega⟩) | (show CPow _ _; exact ⟨by omega, by omega, by omega⟩) | (show (_ : Nat) ≤ sizeLine; exact Nat.le_of_ble_eq_true rfl)) ?_) ))
    have kq : Kq H H2 := kp.q.trans k2
    refine ⟨p, c, a, n + 1, _, _, cols, rfl, pen2, by omega, ha, by omega, by omega, by omega, by omega, by omega, fun r2 ys H3 h3 nd3 sub3 l3 m3 p3 k3 pen3 => ?_⟩
    replace kq := kq.trans k3
    clear k2 kp pen pen2 hb k3 ha
    refine ⟨_, _, rfl, .inl ⟨SqL.of h3, ?_⟩⟩
    (intro t ht; generalize eH : upd H3 t _ = H4; have k12 : Kp [] H3 H4 := eH ▸ Kp.new ht; replace ht := (congrFun eH.symm t).trans upd_same; clear eH; replace pen3 := Pen.same k12 pen3; replace kq := kq.trans k12.q; clear k12)
    (repeat (first | (refine ⟨_, rfl, ?_⟩) | (refine ⟨_, _, rfl, rfl, ?_⟩) | (refine ⟨_, _, _, _, rfl, rfl, SqL.of (by assumption), (by rfl), ?_⟩) | (refine ⟨_, _, _, _, rfl, rfl, (by assumption), (by rfl), ?_⟩) | (refine ⟨_, _, _, _, rfl, rfl, SqL.of (by assumption), (by assumption), ?_⟩) | (refine ⟨_, _, rfl, .inl (SqL.of (by assumption)), ?_⟩) | (refine ⟨_, _, _, _, _, rfl, (by assumption), (by assumption), (by assumption), (by rfl), ?_⟩) | (refine ⟨_, _, _, _, rfl, (by assumption), (by assumption), (by assumption), (Nat.le_of_ble_eq_true rfl), ?_⟩) | (refine And.intro (by first | assumption | rfl | (show (0:Int) < _; omega) | (show CDiv _ _; exact ⟨by omega, by omega⟩) | (show CMul _ _; first | exact .inl ⟨by omega, by omega⟩ | exact .inr ⟨by omega, by omega⟩) | (show CPow _ _; exact ⟨by omega, by omega, by omega⟩) | (show (_ : Nat) ≤ sizeLine; exact Nat.le_of_ble_eq_true rfl)) ?_) ))
    (intro d hd; generalize eH : upd H4 d _ = H5; have k12 : Kp [] H4 H5 := eH ▸ Kp.new hd; replace hd := (congrFun eH.symm d).trans upd_same; clear eH; replace pen3 := Pen.same k12 pen3; replace ht := k12.same _ _ ht; replace kq := kq.trans k12.q; clear k12)
    have ok : ∀ {H'}, H' d = some (.tup [.str "dealt", .str r, .ref t]) → H' t = some (.tup (ys.map V.str)) → LieAt K H' (.ref d) (.dealt r ys) := fun h1 h2 => ⟨d, t, rfl, SqT.of h1, SqT.of h2⟩
    (repeat (first | (refine ⟨_, rfl, ?_⟩) | (refine ⟨_, _, rfl, rfl, ?_⟩) | (refine ⟨_, _, _, _, rfl, rfl, SqL.of (by assumption), (by rfl), ?_⟩) | (refine ⟨_, _, _, _, rfl, rfl, (by assumption), (by rfl), ?_⟩) | (refine ⟨_, _, _, _, rfl, rfl, SqL.of (by assumption), (by assumption), ?_⟩) | (refine ⟨_, _, rfl, .inl (SqL.of (by assumption)), ?_⟩) | (refine ⟨_, _, _, _, _, rfl, (by assumption), (by assumption), (by assumption), (by rfl), ?_⟩) | (refine ⟨_, _, _, _, rfl, (by assumption), (by assumption), (by assumption), (Nat.le_of_ble_eq_true rfl), ?_⟩) | (refine And.intro (by first | assumption | rfl | (show (0:Int) < _; omega) | (show CDiv _ _; exact ⟨by omega, by omega⟩) | (show CMul _ _; first | exact .inl ⟨by omega, by omega⟩ | exact .inr ⟨by omega, by omega⟩) | (show CPow _ _; exact ⟨by omega, by omega, by omega⟩) | (show (_ : Nat) ≤ sizeLine; exact Nat.le_of_ble_eq_true rfl)) ?_) ))
    (intro u1 hu1; generalize eH : upd H5 u1 _ = H6; have k12 : Kp [] H5 H6 := eH ▸ Kp.new hu1; replace hu1 := (congrFun eH.symm u1).trans upd_same; clear eH; replace pen3 := Pen.same k12 pen3; replace ht := k12.same _ _ ht; replace hd := k12.same _ _ hd; replace kq := kq.trans k12.q; clear k12)
    (repeat (first | (refine ⟨_, rfl, ?_⟩) | (refine ⟨_, _, rfl, rfl, ?_⟩) | (refine ⟨_, _, _, _, rfl, rfl, SqL.of (by assumption), (by rfl), ?_⟩) | (refine ⟨_, _, _, _, rfl, rfl, (by assumption), (by rfl), ?_⟩) | (refine ⟨_, _, _, _, rfl, rfl, SqL.of (by assumption), (by assumption), ?_⟩) | (refine ⟨_, _, rfl, .inl (SqL.of (by assumption)), ?_⟩) | (refine ⟨_, _, _, _, _, rfl, (by assumption), (by assumption), (by assumption), (by rfl), ?_⟩) | (refine ⟨_, _, _, _, rfl, (by assumption), (by assumption), (by assumption), (Nat.le_of_ble_eq_true rfl), ?_⟩) | (refine And.intro (by first | assumption | rfl | (show (0:Int) < _; omega) | (show CDiv _ _; exact ⟨by omega, by omega⟩) | (show CMul _ _; first | exact .inl ⟨by omega, by omega⟩ | exact .inr ⟨by omega, by omega⟩) | (show CPow _ _; exact ⟨by omega, by omega, by omega⟩) | (show (_ : Nat) ≤ sizeLine; exact Nat.le_of_ble_eq_true rfl)) ?_) ))
    (intro u2 hu2; generalize eH : upd H6 u2 _ = H7; have k12 : Kp [] H6 H7 := eH ▸ Kp.new hu2; replace hu2 := (congrFun eH.symm u2).trans upd_same; clear eH; replace pen3 := Pen.same k12 pen3; replace ht := k12.same _ _ ht; replace hd := k12.same _ _ hd; replace hu1 := k12.same _ _ hu1; replace kq := kq.trans k12.q; clear k12)
    (repeat (first | (refine ⟨_, rfl, ?_⟩) | (refine ⟨_, _, rfl, rfl, ?_⟩) | (refine ⟨_, _, _, _, rfl, rfl, SqL.of (by assumption), (by rfl), ?_⟩) | (refine ⟨_, _, _, _, rfl, rfl, (by assumption), (by rfl), ?_⟩) | (refine ⟨_, _, _, _, rfl, rfl, SqL.of (by assumption), (by assumption), ?_⟩) | (refine ⟨_, _, rfl, .inl (SqL.of (by assumption)), ?_⟩) | (refine ⟨_, _, _, _, _, rfl, (by assumption), (by assumption), (by assumption), (by rfl), ?_⟩) | (refine ⟨_, _, _, _, rfl, (by assumption), (by assumption), (by assumption), (Nat.le_of_ble_eq_true rfl), ?_⟩) | (refine And.intro (by first | assumption | rfl | (show (0:Int) < _; omega) | (show CDiv _ _; exact ⟨by omega, by omega⟩) | (show CMul _ _; first | exact .inl ⟨by omega, by omega⟩ | exact .inr ⟨by omega, by omega⟩) | (show CPow _ _; exact ⟨by omega, by omega, by omega⟩) | (show (_ : Nat) ≤ sizeLine; exact Nat.le_of_ble_eq_true rfl)) ?_) ))
    (intro u3 hu3; generalize eH : upd H7 u3 _ = H8; have k12 : Kp [] H7 H8 := eH ▸ Kp.new hu3; replace hu3 := (congrFun eH.symm u3).trans upd_same; clear eH; replace pen3 := Pen.same k12 pen3; replace ht := k12.same _ _ ht; replace hd := k12.same _ _ hd; replace hu1 := k12.same _ _ hu1; replace hu2 := k12.same _ _ hu2; replace kq := kq.trans k12.q; clear k12)
    (repeat (first | (refine ⟨_, rfl, ?_⟩) | (refine ⟨_, _, rfl, rfl, ?_⟩) | (refine ⟨_, _, _, _, rfl, rfl, SqL.of (by assumption), (by rfl), ?_⟩) | (refine ⟨_, _, _, _, rfl, rfl, (by assumption), (by rfl), ?_⟩) | (refine ⟨_, _, _, _, rfl, rfl, SqL.of (by assumption), (by assumption), ?_⟩) | (refine ⟨_, _, rfl, .inl (SqL.of (by assumption)), ?_⟩) | (refine ⟨_, _, _, _, _, rfl, (by assumption), (by assumption), (by assumption), (by rfl), ?_⟩) | (refine ⟨_, _, _, _, rfl, (by assumption), (by assumption), (by assumption), (Nat.le_of_ble_eq_true rfl), ?_⟩) | (refine And.intro (by first | assumption | rfl | (show (0:Int) < _; omega) | (show CDiv _ _; exact ⟨by omega, by omega⟩) | (show CMul _ _; first | exact .inl ⟨by omega, by omega⟩ | exact .inr ⟨by omega, by omega⟩) | (show CPow _ _; exact ⟨by omega, by omega, by omega⟩) | (show (_ : Nat) ≤ sizeLine; exact Nat.le_of_ble_eq_true rfl)) ?_) ))
    (intro m hm; generalize eH : upd H8 m _ = H9; have k12 : Kp [] H8 H9 := eH ▸ Kp.new hm; replace hm := (congrFun eH.symm m).trans upd_same; clear eH; replace pen3 := Pen.same k12 pen3; replace ht := k12.same _ _ ht; replace hd := k12.same _ _ hd; replace hu1 := k12.same _ _ hu1; replace hu2 := k12.same _ _ hu2; replace hu3 := k12.same _ _ hu3; replace kq := kq.trans k12.q; clear k12)
    refine ⟨p, c, m, n + 1 + 60, _, rfl, pen3, by omega, hm, rfl, by simp, by simp, fun v HA hv kA penA => ?_⟩
    replace ht := kA.keep _ _ rfl ht
    replace hd := kA.keep _ _ rfl hd
    replace hu1 := kA.keep _ _ rfl hu1
    replace hu2 := kA.keep _ _ rfl hu2
    replace hu3 := kA.keep _ _ rfl hu3
    replace kq := kq.trans kA
    have pn := penA.le (m := n + 70) (by omega)
    have okD : (Lie.dealt r ys).sok := ⟨(ruleB r hr').2, fun x hx => (gn x (sub3 x hx)).2⟩
    have okL : LieOk cols (.dealt r ys) := ⟨(ruleB r hr').1, ⟨by omega, by omega⟩, nd3 nd, sub3⟩
    simp only [List.mem_cons, List.not_mem_nil, or_false] at hv
    rcases hv with rfl | rfl | rfl | rfl | rfl
    · exact k _ .copied HA ⟨_, rfl, SqT.of hu1⟩ trivial trivial kq pn
    · exact k _ .anyhow HA ⟨_, rfl, SqT.of hu2⟩ trivial trivial kq pn
    · exact k _ .zero HA ⟨_, rfl, SqT.of hu3⟩ trivial trivial kq pn
    · exact k _ (.dealt r ys) HA (ok hd ht) okD okL kq pn
    · exact k _ (.dealt r ys) HA (ok hd ht) okD okL kq pn
def spBare (K : PySem.W.Frag) : Sp := fun vs H Q _ => ∃ (p c : Addr) (n : Int), vs = [.ref p] ∧ Pen H p c n ∧ n ≤ 99000 ∧ ∀ v b H', BareAt K H' v b → BOk b → GoodCols b.cols → Kq H H' → Pen H' p c (n + 300) → Q v H'
theorem cBare (D : Dfn K mg "_law_bare" s_law_bare) (T : Txt K mg aW aP C) (cDraw : Cal P w K mg base 1 "_law_draw" spDraw) (cPick : Cal P w K mg base 2 "_law_pick" (spPick K)) (cSome : Cal P w K mg base 2 "_law_some" spSome) (cNames : Cal P w K mg base 2 "_law_names" spNames) (cLie : Cal P w K mg base 3 "_law_lie" (spLie K)) : Cal P w K mg base 4 "_law_bare" (spBare K) := by
  refine cal D sc_law_bare (fun _ _ _ _ _ _ us hl => match us, hl with | [_], _ => rfl) (fun vs H Q E h => ?_) (fun f cdv A outer s H vs Q E hr h => ?_)
  · obtain ⟨p, c, n, rfl, _⟩ := h; rfl
  · obtain ⟨p, c, n, rfl, pen, hn, k⟩ := h
    refine ⟨_, (pss_cons (ps_set (i := 1) sc_law_bare.nd rfl (Or.inl rfl) (pe_c cNames hr (by decide) (by rfl) (pa_cons (pv 0) (pa_cons (pe_op op_add pe_int (pe_c cDraw hr (by decide) (by rfl) (pa_cons (pv 0) (pa_cons (pe_c cPick hr (by decide) (by rfl) (pa_cons (pv 0) (pa_cons (pe_lst (pa_cons pe_int (pa_cons pe_int pa_nil))) pa_nil))) pa_nil)))) pa_nil))))
      (pss_cons (ps_set (i := 2) sc_law_bare.nd rfl (Or.inl rfl) (pe_c cPick hr (by decide) (by rfl) (pa_cons (pv 0) (pa_cons (pe_lst (pa_cons (pe_lst pa_nil) (pa_cons (pe_c cSome hr (by decide) (by rfl) (pa_cons (pv 0) (pa_cons (pv 1) (pa_cons pe_int (pa_cons pe_int pa_nil))))) pa_nil))) pa_nil))))
      (pss_one (ps_ret (pe_lst (pa_cons (pe_c cPick hr (by decide) (by rfl) (pa_cons (pv 0) (pa_cons (pe_op op_cat (pe_c cNames hr (by decide) (by rfl) (pa_cons (pv 0) (pa_cons pe_int pa_nil))) (pv 1)) pa_nil))) (pa_cons (pv 1) (pa_cons (pv 2) (pa_cons (pe_c cLie hr (by decide) (by rfl) (pa_cons (pv 0) (pa_cons (pv 1) pa_nil))) pa_nil))))))))), ?_⟩
    show (_ : TS) _ [some (V.ref p), none, none] H
    have kq : Kq H H := Kq.refl _
    (repeat (first | (refine ⟨_, rfl, ?_⟩) | (refine ⟨_, _, rfl, rfl, ?_⟩) | (refine ⟨_, _, _, _, rfl, rfl, SqL.of (by assumption), (by rfl), ?_⟩) | (refine ⟨_, _, _, _, rfl, rfl, (by assumption), (by rfl), ?_⟩) | (refine ⟨_, _, _, _, rfl, rfl, SqL.of (by assumption), (by assumption), ?_⟩) | (refine ⟨_, _, rfl, .inl (SqL.of (by assumption)), ?_⟩) | (refine ⟨_, _, _, _, _, rfl, (by assumption), (by assumption), (by assumption), (by rfl), ?_⟩) | (refine ⟨_, _, _, _, rfl, (by assumption), (by assumption), (by assumption), (Nat.le_of_ble_eq_true rfl), ?_⟩) | (refine And.intro (by first | assumption | rfl | (show (0:Int) < _; omega) | (show CDiv _ _; exact ⟨by omega, by omega⟩) | (show CMul _ _; first | exact .inl ⟨by omega, by omega⟩ | exact .inr ⟨by omega, by omega⟩) | (show CPow _ _; exact ⟨by omega, by omega, by omega⟩) | (show (_ : Nat) ≤ sizeLine; exact Nat.le_of_ble_eq_true rfl)) ?_) ))
    (intro b hb; generalize eH : upd H b _ = H1; have k12 : Kp [] H H1 := eH ▸ Kp.new hb; replace hb := (congrFun eH.symm b).trans upd_same; clear eH; replace pen := Pen.same k12 pen; replace kq := kq.trans k12.q; clear k12)
    refine ⟨p, c, b, n, _, rfl, pen, by omega, hb, rfl, by simp, by simp, fun v H2 hv k2 pen2 => ?_⟩
    obtain ⟨m, rfl, m1, m8⟩ : ∃ m : Nat, v = .int m ∧ 4 ≤ m ∧ m ≤ 8 := by
      simp only [List.mem_cons, List.not_mem_nil, or_false] at hv
      rcases hv with rfl | rfl
      · exact ⟨4, rfl, by omega, by omega⟩
      · exact ⟨8, rfl, by omega, by omega⟩
    replace kq := kq.trans k2
    clear k2 pen hb hv
    refine ⟨p, c, _, n + 1, rfl, pen2, by omega, by omega, by omega, fun d H3 d0 d1 k3 pen3 => ?_⟩
    obtain ⟨j, rfl⟩ := Int.eq_ofNat_of_zero_le d0
    (repeat (first | (refine ⟨_, rfl, ?_⟩) | (refine ⟨_, _, rfl, rfl, ?_⟩) | (refine ⟨_, _, _, _, rfl, rfl, SqL.of (by assumption), (by rfl), ?_⟩) | (refine ⟨_, _, _, _, rfl, rfl, (by assumption), (by rfl), ?_⟩) | (refine ⟨_, _, _, _, rfl, rfl, SqL.of (by assumption), (by assumption), ?_⟩) | (refine ⟨_, _, rfl, .inl (SqL.of (by assumption)), ?_⟩) | (refine ⟨_, _, _, _, _, rfl, (by assumption), (by assumption), (by assumption), (by rfl), ?_⟩) | (refine ⟨_, _, _, _, rfl, (by assumption), (by assumption), (by assumption), (Nat.le_of_ble_eq_true rfl), ?_⟩) | (refine And.intro (by first | assumption | rfl | (show (0:Int) < _; omega) | (show CDiv _ _; exact ⟨by omega, by omega⟩) | (show CMul _ _; first | exact .inl ⟨by omega, by omega⟩ | exact .inr ⟨by omega, by omega⟩) | (show CPow _ _; exact ⟨by omega, by omega, by omega⟩) | (show (_ : Nat) ≤ sizeLine; exact Nat.le_of_ble_eq_true rfl)) ?_) ))
    replace kq := kq.trans k3
    have e1 : (1 : Int) + (j : Nat) = ((j + 1 : Nat) : Int) := by omega
    refine ⟨p, c, _, j + 1, (by show [V.ref p, V.int (1 + ((j : Nat) : Int))] = _; rw [e1]), pen3, by omega, by omega, by omega, fun r cols H4 h4 l4 g4 k4 pen4 => ?_⟩
    replace kq := kq.trans k4
    clear k3 k4 pen3 pen2 b H1 H2 H3
    (repeat (first | (refine ⟨_, rfl, ?_⟩) | (refine ⟨_, _, rfl, rfl, ?_⟩) | (refine ⟨_, _, _, _, rfl, rfl, SqL.of (by assumption), (by rfl), ?_⟩) | (refine ⟨_, _, _, _, rfl, rfl, (by assumption), (by rfl), ?_⟩) | (refine ⟨_, _, _, _, rfl, rfl, SqL.of (by assumption), (by assumption), ?_⟩) | (refine ⟨_, _, rfl, .inl (SqL.of (by assumption)), ?_⟩) | (refine ⟨_, _, _, _, _, rfl, (by assumption), (by assumption), (by assumption), (by rfl), ?_⟩) | (refine ⟨_, _, _, _, rfl, (by assumption), (by assumption), (by assumption), (Nat.le_of_ble_eq_true rfl), ?_⟩) | (refine And.intro (by first | assumption | rfl | (show (0:Int) < _; omega) | (show CDiv _ _; exact ⟨by omega, by omega⟩) | (show CMul _ _; first | exact .inl ⟨by omega, by omega⟩ | exact .inr ⟨by omega, by omega⟩) | (show CPow _ _; exact ⟨by omega, by omega, by omega⟩) | (show (_ : Nat) ≤ sizeLine; exact Nat.le_of_ble_eq_true rfl)) ?_) ))
    (intro b hb; generalize eH : upd H4 b _ = H5; have k12 : Kp [] H4 H5 := eH ▸ Kp.new hb; replace hb := (congrFun eH.symm b).trans upd_same; clear eH; replace pen4 := Pen.same k12 pen4; replace h4 := StrL.same k12 h4; replace kq := kq.trans k12.q; clear k12)
    (repeat (first | (refine ⟨_, rfl, ?_⟩) | (refine ⟨_, _, rfl, rfl, ?_⟩) | (refine ⟨_, _, _, _, rfl, rfl, SqL.of (by assumption), (by rfl), ?_⟩) | (refine ⟨_, _, _, _, rfl, rfl, (by assumption), (by rfl), ?_⟩) | (refine ⟨_, _, _, _, rfl, rfl, SqL.of (by assumption), (by assumption), ?_⟩) | (refine ⟨_, _, rfl, .inl (SqL.of (by assumption)), ?_⟩) | (refine ⟨_, _, _, _, _, rfl, (by assumption), (by assumption), (by assumption), (by rfl), ?_⟩) | (refine ⟨_, _, _, _, rfl, (by assumption), (by assumption), (by assumption), (Nat.le_of_ble_eq_true rfl), ?_⟩) | (refine And.intro (by first | assumption | rfl | (show (0:Int) < _; omega) | (show CDiv _ _; exact ⟨by omega, by omega⟩) | (show CMul _ _; first | exact .inl ⟨by omega, by omega⟩ | exact .inr ⟨by omega, by omega⟩) | (show CPow _ _; exact ⟨by omega, by omega, by omega⟩) | (show (_ : Nat) ≤ sizeLine; exact Nat.le_of_ble_eq_true rfl)) ?_) ))
    refine ⟨p, c, r, _, _, _, cols, rfl, pen4, by omega, h4, by omega, by omega, by omega, by omega, by omega, fun r2 ys H6 h6 nd6 sub6 l6 m6 p6 k6 pen6 => ?_⟩
    replace kq := kq.trans k6
    replace h4 := h4.kq k6
    replace hb := k6.keep _ _ rfl hb
    clear k6
    (repeat (first | (refine ⟨_, rfl, ?_⟩) | (refine ⟨_, _, rfl, rfl, ?_⟩) | (refine ⟨_, _, _, _, rfl, rfl, SqL.of (by assumption), (by rfl), ?_⟩) | (refine ⟨_, _, _, _, rfl, rfl, (by assumption), (by rfl), ?_⟩) | (refine ⟨_, _, _, _, rfl, rfl, SqL.of (by assumption), (by assumption), ?_⟩) | (refine ⟨_, _, rfl, .inl (SqL.of (by assumption)), ?_⟩) | (refine ⟨_, _, _, _, _, rfl, (by assumption), (by assumption), (by assumption), (by rfl), ?_⟩) | (refine ⟨_, _, _, _, rfl, (by assumption), (by assumption), (by assumption), (Nat.le_of_ble_eq_true rfl), ?_⟩) | (refine And.intro (by first | assumption | rfl | (show (0:Int) < _; omega) | (show CDiv _ _; exact ⟨by omega, by omega⟩) | (show CMul _ _; first | exact .inl ⟨by omega, by omega⟩ | exact .inr ⟨by omega, by omega⟩) | (show CPow _ _; exact ⟨by omega, by omega, by omega⟩) | (show (_ : Nat) ≤ sizeLine; exact Nat.le_of_ble_eq_true rfl)) ?_) ))
    (intro e he; generalize eH : upd H6 e _ = H7; have k12 : Kp [] H6 H7 := eH ▸ Kp.new he; replace he := (congrFun eH.symm e).trans upd_same; clear eH; replace pen6 := Pen.same k12 pen6; replace h4 := StrL.same k12 h4; replace h6 := StrL.same k12 h6; replace hb := k12.same _ _ hb; replace kq := kq.trans k12.q; clear k12)
    refine ⟨p, c, e, _, _, rfl, pen6, by omega, he, rfl, by simp, by simp, fun v H8 hv k8 pen8 => ?_⟩
    obtain ⟨y, ks, rfl, hy, kl, kn, ks'⟩ : ∃ y ks, v = .ref y ∧ StrL H8 y ks ∧ ks.length ≤ 8 ∧ ks.Nodup ∧ ∀ x ∈ ks, x ∈ cols := by
      simp only [List.mem_cons, List.not_mem_nil, or_false] at hv
      rcases hv with rfl | rfl
      · exact ⟨b, [], rfl, k8.keep _ _ rfl hb, by simp, List.nodup_nil, by simp⟩
      · exact ⟨r2, ys, rfl, h6.kq k8, by omega, nd6 g4.1, sub6⟩
    replace kq := kq.trans k8
    replace h4 := h4.kq k8
    clear k8 hb he h6 pen6 pen4
    (repeat (first | (refine ⟨_, rfl, ?_⟩) | (refine ⟨_, _, rfl, rfl, ?_⟩) | (refine ⟨_, _, _, _, rfl, rfl, SqL.of (by assumption), (by rfl), ?_⟩) | (refine ⟨_, _, _, _, rfl, rfl, (by assumption), (by rfl), ?_⟩) | (refine ⟨_, _, _, _, rfl, rfl, SqL.of (by assumption), (by assumption), ?_⟩) | (refine ⟨_, _, rfl, .inl (SqL.of (by assumption)), ?_⟩) | (refine ⟨_, _, _, _, _, rfl, (by assumption), (by assumption), (by assumption), (by rfl), ?_⟩) | (refine ⟨_, _, _, _, rfl, (by assumption), (by assumption), (by assumption), (Nat.le_of_ble_eq_true rfl), ?_⟩) | (refine And.intro (by first | assumption | rfl | (show (0:Int) < _; omega) | (show CDiv _ _; exact ⟨by omega, by omega⟩) | (show CMul _ _; first | exact .inl ⟨by omega, by omega⟩ | exact .inr ⟨by omega, by omega⟩) | (show CPow _ _; exact ⟨by omega, by omega, by omega⟩) | (show (_ : Nat) ≤ sizeLine; exact Nat.le_of_ble_eq_true rfl)) ?_) ))
    refine ⟨p, c, _, 3, rfl, pen8, by omega, by omega, by omega, fun r3 zs H9 h9 l9 g9 k9 pen9 => ?_⟩
    replace kq := kq.trans k9
    replace h4 := h4.kq k9
    replace hy := hy.kq k9
    clear k9
    (repeat (first | (refine ⟨_, rfl, ?_⟩) | (refine ⟨_, _, rfl, rfl, ?_⟩) | (refine ⟨_, _, _, _, rfl, rfl, SqL.of (by assumption), (by rfl), ?_⟩) | (refine ⟨_, _, _, _, rfl, rfl, (by assumption), (by rfl), ?_⟩) | (refine ⟨_, _, _, _, rfl, rfl, SqL.of (by assumption), (by assumption), ?_⟩) | (refine ⟨_, _, rfl, .inl (SqL.of (by assumption)), ?_⟩) | (refine ⟨_, _, _, _, _, rfl, (by assumption), (by assumption), (by assumption), (by rfl), ?_⟩) | (refine ⟨_, _, _, _, rfl, (by assumption), (by assumption), (by assumption), (Nat.le_of_ble_eq_true rfl), ?_⟩) | (refine And.intro (by first | assumption | rfl | (show (0:Int) < _; omega) | (show CDiv _ _; exact ⟨by omega, by omega⟩) | (show CMul _ _; first | exact .inl ⟨by omega, by omega⟩ | exact .inr ⟨by omega, by omega⟩) | (show CPow _ _; exact ⟨by omega, by omega, by omega⟩) | (show (_ : Nat) ≤ sizeLine; exact Nat.le_of_ble_eq_true rfl)) ?_) ))
    refine ⟨_, _, _, _, rfl, rfl, h9, h4, by simp [l9]; exact Nat.le_trans (m := 100) (by omega) (by decide), ?_⟩
    (intro u hu; generalize eH : upd H9 u _ = HA; have k12 : Kp [] H9 HA := eH ▸ Kp.new hu; replace hu := (congrFun eH.symm u).trans upd_same; clear eH; replace pen9 := Pen.same k12 pen9; replace h4 := StrL.same k12 h4; replace hy := StrL.same k12 hy; replace kq := kq.trans k12.q; clear k12)
    replace hu : HA u = some (.lst ((zs ++ cols).map V.str)) := by simpa using hu
    refine ⟨p, c, u, _, _, rfl, pen9, by omega, hu, shape_strs _, by intro z; have := congrArg List.length z; simp [l9] at this, by simp [l9]; omega, fun v HB hv kB penB => ?_⟩
    obtain ⟨nm, hnm, rfl⟩ := List.mem_map.mp hv
    have okn : nameB nm = true ∧ PyData.strOk nm = true := by
      rcases List.mem_append.mp hnm with z | z
      · exact ⟨(g9.2 nm z).1, (g9.2 nm z).2.1⟩
      · exact ⟨(g4.2 nm z).1, (g4.2 nm z).2.1⟩
    replace kq := kq.trans kB
    replace h4 := h4.kq kB
    replace hy := hy.kq kB
    clear kB hu hv
    (repeat (first | (refine ⟨_, rfl, ?_⟩) | (refine ⟨_, _, rfl, rfl, ?_⟩) | (refine ⟨_, _, _, _, rfl, rfl, SqL.of (by assumption), (by rfl), ?_⟩) | (refine ⟨_, _, _, _, rfl, rfl, (by assumption), (by rfl), ?_⟩) | (refine ⟨_, _, _, _, rfl, rfl, SqL.of (by assumption), (by assumption), ?_⟩) | (refine ⟨_, _, rfl, .inl (SqL.of (by assumption)), ?_⟩) | (refine ⟨_, _, _, _, _, rfl, (by assumption), (by assumption), (by assumption), (by rfl), ?_⟩) | (refine ⟨_, _, _, _, rfl, (by assumption), (by assumption), (by assumption), (Nat.le_of_ble_eq_true rfl), ?_⟩) | (refine And.intro (by first | assumption | rfl | (show (0:Int) < _; omega) | (show CDiv _ _; exact ⟨by omega, by omega⟩) | (show CMul _ _; first | exact .inl ⟨by omega, by omega⟩ | exact .inr ⟨by omega, by omega⟩) | (show CPow _ _; exact ⟨by omega, by omega, by omega⟩) | (show (_ : Nat) ≤ sizeLine; exact Nat.le_of_ble_eq_true rfl)) ?_) ))
    have gc : GoodCols cols := ⟨g4, by omega, by omega⟩
    refine ⟨p, c, r, _, cols, rfl, penB, by omega, h4, gc.ok, fun v l HC hl so ok kC penC => ?_⟩
    replace kq := kq.trans kC
    replace h4 := h4.kq kC
    replace hy := hy.kq kC
    (repeat (first | (refine ⟨_, rfl, ?_⟩) | (refine ⟨_, _, rfl, rfl, ?_⟩) | (refine ⟨_, _, _, _, rfl, rfl, SqL.of (by assumption), (by rfl), ?_⟩) | (refine ⟨_, _, _, _, rfl, rfl, (by assumption), (by rfl), ?_⟩) | (refine ⟨_, _, _, _, rfl, rfl, SqL.of (by assumption), (by assumption), ?_⟩) | (refine ⟨_, _, rfl, .inl (SqL.of (by assumption)), ?_⟩) | (refine ⟨_, _, _, _, _, rfl, (by assumption), (by assumption), (by assumption), (by rfl), ?_⟩) | (refine ⟨_, _, _, _, rfl, (by assumption), (by assumption), (by assumption), (Nat.le_of_ble_eq_true rfl), ?_⟩) | (refine And.intro (by first | assumption | rfl | (show (0:Int) < _; omega) | (show CDiv _ _; exact ⟨by omega, by omega⟩) | (show CMul _ _; first | exact .inl ⟨by omega, by omega⟩ | exact .inr ⟨by omega, by omega⟩) | (show CPow _ _; exact ⟨by omega, by omega, by omega⟩) | (show (_ : Nat) ≤ sizeLine; exact Nat.le_of_ble_eq_true rfl)) ?_) ))
    (intro z hz; generalize eH : upd HC z _ = HD; have k12 : Kp [] HC HD := eH ▸ Kp.new hz; replace hz := (congrFun eH.symm z).trans upd_same; clear eH; replace penC := Pen.same k12 penC; replace h4 := StrL.same k12 h4; replace hy := StrL.same k12 hy; replace hl := LieAt.same k12 hl; replace kq := kq.trans k12.q; clear k12)
    refine k (.ref z) ⟨nm, cols, ks, l⟩ HD ⟨z, r, y, v, rfl, hz, h4, hy, hl⟩ ?_ gc kq (penC.le (by omega))
    exact ⟨okn.1, gc.2, g4.1, fun x hx => (g4.2 x hx).1, kl, kn, ks', ok, ⟨okn.2, fun x hx => (g4.2 x hx).2.1, fun x hx => (g4.2 x (ks' x hx)).2.1, so⟩⟩
end
end K14

namespace K14
open PySem L2 GB G1 Tb TL
def spMade (K : PySem.W.Frag) (C : Addr) : Sp := fun vs H Q _ => ∃ (p c : Addr) (n : Int) (v : V) (b : Bare), vs = [.ref p, v] ∧ Pen H p c n ∧ n ≤ 99900 ∧ BareAt K H v b ∧ BOk b ∧ ∀ r H', TabAt K C H' r b → Kq H H' → Pen H' p c (n + 3) → Q r H'
section
variable {P : Program} {w : World} {K : PySem.W.Frag} {mg : Str → Option Value} {base : Heap} {aW aP C dk dl : Addr}
theorem cMade (D : Dfn K mg "_law_made" s_law_made) (T : Txt K mg aW aP C) (hdk : ∀ H, SqT K H dk []) (hdl : ∀ H, SqT K H dl [.str "anyhow"]) (cDraw : Cal P w K mg base 1 "_law_draw" spDraw)
    (kAB : KMk P w K mg base 3 "Table" C 2 ["key", "lies"] (fun vs zs => vs ++ zs) (spInit K C)) (kL : KMk P w K mg base 3 "Table" C 2 ["lies"] (fun vs zs => vs ++ [.ref dk] ++ zs) (spInit K C))
    (kK : KMk P w K mg base 3 "Table" C 2 ["key"] (fun vs zs => vs ++ zs ++ [.ref dl]) (spInit K C)) (k0 : KMk P w K mg base 3 "Table" C 2 [] (fun vs _ => vs ++ [.ref dk, .ref dl]) (spInit K C)) : Cal P w K mg base 5 "_law_made" (spMade K C) := by
  refine cal D sc_law_made (fun _ _ _ _ _ _ us hl => match us, hl with | [_, _], _ => rfl) (fun vs H Q E h => ?_) (fun f cdv A outer s H vs Q E hr h => ?_)
  · obtain ⟨p, c, n, v, b, rfl, _⟩ := h; rfl
  · obtain ⟨p, c, n, v, b, rfl, pen, hn, hb, ok, k⟩ := h
    refine ⟨_, (pss_cons (ps_asg (pv 1) (pg_unl rfl (pgs_cons (pg_name (i := 2) sc_law_made.nd rfl (Or.inl rfl)) (pgs_cons (pg_name (i := 3) sc_law_made.nd rfl (Or.inl rfl)) (pgs_cons (pg_name (i := 4) sc_law_made.nd rfl (Or.inl rfl)) (pgs_cons (pg_name (i := 5) sc_law_made.nd rfl (Or.inl rfl)) pgs_nil))))))
      (pss_cut (ps_if (PW.pt (pw_and (pt_cmpR (op_eqNil hr) (pv 4) (pe_lst pa_nil) (nomark _)) (pw_and (pt_cmpR (op_eqD hr.units) (pv 5) (pe_tup (pa_cons pe_str pa_nil)) (nomark _)) (pw_and1 (pt_cmpR op_eq (pe_c cDraw hr (by decide) (by rfl) (pa_cons (pv 0) (pa_cons pe_int pa_nil))) pe_int (nomark _)))))) (pss_one (ps_ret (pe_kmk k0 hr (by decide) (by rfl) (pa_cons (pv 2) (pa_cons (pv 3) pa_nil)) pk_nil))) pss_nil)
      (pss_cut (ps_if (PW.pt (pw_and (pt_cmpR (op_eqNil hr) (pv 4) (pe_lst pa_nil) (nomark _)) (pw_and1 (pt_cmpR op_eq (pe_c cDraw hr (by decide) (by rfl) (pa_cons (pv 0) (pa_cons pe_int pa_nil))) pe_int (nomark _))))) (pss_one (ps_ret (pe_kmk kL hr (by decide) (by rfl) (pa_cons (pv 2) (pa_cons (pv 3) pa_nil)) (pk_cons (pv 5) pk_nil)))) pss_nil)
      (pss_cut (ps_if (PW.pt (pw_and (pt_cmpR (op_eqD hr.units) (pv 5) (pe_tup (pa_cons pe_str pa_nil)) (nomark _)) (pw_and1 (pt_cmpR op_eq (pe_c cDraw hr (by decide) (by rfl) (pa_cons (pv 0) (pa_cons pe_int pa_nil))) pe_int (nomark _))))) (pss_one (ps_ret (pe_kmk kK hr (by decide) (by rfl) (pa_cons (pv 2) (pa_cons (pv 3) pa_nil)) (pk_cons (pv 4) pk_nil)))) pss_nil)
      (pss_one (ps_ret (pe_kmk kAB hr (by decide) (by rfl) (pa_cons (pv 2) (pa_cons (pv 3) pa_nil)) (pk_cons (pv 4) (pk_cons (pv 5) pk_nil))))))))), ?_⟩
    show (_ : TS) _ [some (V.ref p), some v, none, none, none, none] H
    obtain ⟨x, cc, kk, l, rfl, hx, hc, hk, hl⟩ := hb
    (repeat (first | (refine ⟨_, rfl, ?_⟩) | (refine ⟨_, _, rfl, rfl, ?_⟩) | (refine ⟨_, _, _, _, rfl, rfl, SqL.of (by assumption), (by rfl), ?_⟩) | (refine ⟨_, _, _, _, rfl, rfl, (by assumption), (by rfl), ?_⟩) | (refine ⟨_, _, _, _, rfl, rfl, SqL.of (by assumption), (by assumption), ?_⟩) | (refine ⟨_, _, rfl, .inl (SqL.of (by assumption)), ?_⟩) | (refine ⟨_, _, _, _, _, rfl, (by assumption), (by assumption), (by assumption), (by rfl), ?_⟩) | (refine ⟨_, _, _, _, rfl, (by assumption), (by assumption), (by assumption), (Nat.le_of_ble_eq_true rfl), ?_⟩) | (refine And.intro (by first | assumption | rfl | (show (0:Int) < _; omega) | (show CDiv _ _; exact ⟨by omega, by omega⟩) | (show CMul _ _; first | exact .inl ⟨by omega, by omega⟩ | exact .inr ⟨by omega, by omega⟩) | (show CPow _ _; exact ⟨by omega, by omega, by omega⟩) | (show (_ : Nat) ≤ sizeLine; exact Nat.le_of_ble_eq_true rfl)) ?_) ))
    refine ⟨_, _, rfl, SqL.of hx, rfl, ?_⟩
    refine ⟨_, _, rfl, _, _, rfl, _, _, rfl, _, _, rfl, rfl, ?_⟩
    have fin : ∀ {H' : Hp} {kk' : Addr} {l' : V}, Kq H H' → Pen H' p c (n + 3) → SqA K H' kk' (b.key.map V.str) → LieAt K H' l' b.lie →
        ∀ x dx, H' x = none → H' dx = none → dx ≠ x → spInit K C [.ref x, .str b.name, .ref cc, .ref kk', l'] (upd (upd H' dx (.own x)) x (.ins C dx [])) (fun v H3 => v = .non ∧ Q (.ref x) H3) E0 := fun kq pn h1 h2 =>
      mkTab (hc.kq kq) h1 h2 ok (fun r H2 k2 t => k r H2 t (kq.trans k2.q) (pn.same k2))
    refine ⟨fun σ' H' => σ' = [some (V.ref p), some (V.ref x), some (V.str b.name), some (V.ref cc), some (V.ref kk), some l] ∧ Kq H H' ∧ Pen H' p c (n + 1), ?_, ?_⟩
    · have kq : Kq H H := Kq.refl _
      (repeat (first | (refine ⟨_, rfl, ?_⟩) | (refine ⟨_, _, rfl, rfl, ?_⟩) | (refine ⟨_, _, _, _, rfl, rfl, SqL.of (by assumption), (by rfl), ?_⟩) | (refine ⟨_, _, _, _, rfl, rfl, (by assumption), (by rfl), ?_⟩) | (refine ⟨_, _, _, _, rfl, rfl, SqL.of (by assumption), (by assumption), ?_⟩) | (refine ⟨_, _, rfl, .inl (SqL.of (by assumption)), ?_⟩) | (refine ⟨_, _, _, _, _, rfl, (by assumption), (by assumption), (by assumption), (by rfl), ?_⟩) | (refine ⟨_, _, _, _, rfl, (by assumption), (by assumption), (by assumption), (Nat.le_of_ble_eq_true rfl), ?_⟩) | (refine And.intro (by first | assumption | rfl | (show (0:Int) < _; omega) | (show CDiv _ _; exact ⟨by omega, by omega⟩) | (show CMul _ _; first | exact .inl ⟨by omega, by omega⟩ | exact .inr ⟨by omega, by omega⟩) | (show CPow _ _; exact ⟨by omega, by omega, by omega⟩) | (show (_ : Nat) ≤ sizeLine; exact Nat.le_of_ble_eq_true rfl)) ?_) ))
      (intro e he; generalize eH : upd H e _ = H1; have k12 : Kp [] H H1 := eH ▸ Kp.new he; replace he := (congrFun eH.symm e).trans upd_same; clear eH; replace pen := Pen.same k12 pen; replace hk := StrL.same k12 hk; replace hl := LieAt.same k12 hl; replace kq := kq.trans k12.q; clear k12)
      refine ⟨_, _, _, rfl, rfl, SqL.of hk, SqL.of he, ?_⟩
      (repeat (first | (refine ⟨_, rfl, ?_⟩) | (refine ⟨_, _, rfl, rfl, ?_⟩) | (refine ⟨_, _, _, _, rfl, rfl, SqL.of (by assumption), (by rfl), ?_⟩) | (refine ⟨_, _, _, _, rfl, rfl, (by assumption), (by rfl), ?_⟩) | (refine ⟨_, _, _, _, rfl, rfl, SqL.of (by assumption), (by assumption), ?_⟩) | (refine ⟨_, _, rfl, .inl (SqL.of (by assumption)), ?_⟩) | (refine ⟨_, _, _, _, _, rfl, (by assumption), (by assumption), (by assumption), (by rfl), ?_⟩) | (refine ⟨_, _, _, _, rfl, (by assumption), (by assumption), (by assumption), (Nat.le_of_ble_eq_true rfl), ?_⟩) | (refine And.intro (by first | assumption | rfl | (show (0:Int) < _; omega) | (show CDiv _ _; exact ⟨by omega, by omega⟩) | (show CMul _ _; first | exact .inl ⟨by omega, by omega⟩ | exact .inr ⟨by omega, by omega⟩) | (show CPow _ _; exact ⟨by omega, by omega, by omega⟩) | (show (_ : Nat) ≤ sizeLine; exact Nat.le_of_ble_eq_true rfl)) ?_) ))
      refine ite2 (fun g1 => ?_) (fun g1 => iteF ⟨rfl, kq, pen.le (by omega)⟩)
      have gk : b.key = [] := by cases h : b.key with | nil => rfl | cons _ _ => rw [h] at g1; simp at g1
      (repeat (first | (refine ⟨_, rfl, ?_⟩) | (refine ⟨_, _, rfl, rfl, ?_⟩) | (refine ⟨_, _, _, _, rfl, rfl, SqL.of (by assumption), (by rfl), ?_⟩) | (refine ⟨_, _, _, _, rfl, rfl, (by assumption), (by rfl), ?_⟩) | (refine ⟨_, _, _, _, rfl, rfl, SqL.of (by assumption), (by assumption), ?_⟩) | (refine ⟨_, _, rfl, .inl (SqL.of (by assumption)), ?_⟩) | (refine ⟨_, _, _, _, _, rfl, (by assumption), (by assumption), (by assumption), (by rfl), ?_⟩) | (refine ⟨_, _, _, _, rfl, (by assumption), (by assumption), (by assumption), (Nat.le_of_ble_eq_true rfl), ?_⟩) | (refine And.intro (by first | assumption | rfl | (show (0:Int) < _; omega) | (show CDiv _ _; exact ⟨by omega, by omega⟩) | (show CMul _ _; first | exact .inl ⟨by omega, by omega⟩ | exact .inr ⟨by omega, by omega⟩) | (show CPow _ _; exact ⟨by omega, by omega, by omega⟩) | (show (_ : Nat) ≤ sizeLine; exact Nat.le_of_ble_eq_true rfl)) ?_) ))
      (intro t ht; generalize eH : upd H1 t _ = H2; have k12 : Kp [] H1 H2 := eH ▸ Kp.new ht; replace ht := (congrFun eH.symm t).trans upd_same; clear eH; replace pen := Pen.same k12 pen; replace hl := LieAt.same k12 hl; replace kq := kq.trans k12.q; clear k12)
      refine ⟨_, _, hl.dp, .tup (SqT.of ht) (.cons (.str _) .nil), b.lie.shaped ok.sok.lie, Lie.shaped .anyhow trivial, ?_⟩
      (repeat (first | (refine ⟨_, rfl, ?_⟩) | (refine ⟨_, _, rfl, rfl, ?_⟩) | (refine ⟨_, _, _, _, rfl, rfl, SqL.of (by assumption), (by rfl), ?_⟩) | (refine ⟨_, _, _, _, rfl, rfl, (by assumption), (by rfl), ?_⟩) | (refine ⟨_, _, _, _, rfl, rfl, SqL.of (by assumption), (by assumption), ?_⟩) | (refine ⟨_, _, rfl, .inl (SqL.of (by assumption)), ?_⟩) | (refine ⟨_, _, _, _, _, rfl, (by assumption), (by assumption), (by assumption), (by rfl), ?_⟩) | (refine ⟨_, _, _, _, rfl, (by assumption), (by assumption), (by assumption), (Nat.le_of_ble_eq_true rfl), ?_⟩) | (refine And.intro (by first | assumption | rfl | (show (0:Int) < _; omega) | (show CDiv _ _; exact ⟨by omega, by omega⟩) | (show CMul _ _; first | exact .inl ⟨by omega, by omega⟩ | exact .inr ⟨by omega, by omega⟩) | (show CPow _ _; exact ⟨by omega, by omega, by omega⟩) | (show (_ : Nat) ≤ sizeLine; exact Nat.le_of_ble_eq_true rfl)) ?_) ))
      refine ite2 (fun g2 => ?_) (fun g2 => iteF ⟨rfl, kq, pen.le (by omega)⟩)
      have gl : b.lie = .anyhow := of_decide_eq_true ((Lie.eqv b.lie .anyhow).symm.trans g2)
      (repeat (first | (refine ⟨_, rfl, ?_⟩) | (refine ⟨_, _, rfl, rfl, ?_⟩) | (refine ⟨_, _, _, _, rfl, rfl, SqL.of (by assumption), (by rfl), ?_⟩) | (refine ⟨_, _, _, _, rfl, rfl, (by assumption), (by rfl), ?_⟩) | (refine ⟨_, _, _, _, rfl, rfl, SqL.of (by assumption), (by assumption), ?_⟩) | (refine ⟨_, _, rfl, .inl (SqL.of (by assumption)), ?_⟩) | (refine ⟨_, _, _, _, _, rfl, (by assumption), (by assumption), (by assumption), (by rfl), ?_⟩) | (refine ⟨_, _, _, _, rfl, (by assumption), (by assumption), (by assumption), (Nat.le_of_ble_eq_true rfl), ?_⟩) | (refine And.intro (by first | assumption | rfl | (show (0:Int) < _; omega) | (show CDiv _ _; exact ⟨by omega, by omega⟩) | (show CMul _ _; first | exact .inl ⟨by omega, by omega⟩ | exact .inr ⟨by omega, by omega⟩) | (show CPow _ _; exact ⟨by omega, by omega, by omega⟩) | (show (_ : Nat) ≤ sizeLine; exact Nat.le_of_ble_eq_true rfl)) ?_) ))
      refine ⟨p, c, _, n, rfl, pen, by decide, by decide, by omega, fun d H3 d0 d1 k3 pen3 => ?_⟩
      (repeat (first | (refine ⟨_, rfl, ?_⟩) | (refine ⟨_, _, rfl, rfl, ?_⟩) | (refine ⟨_, _, _, _, rfl, rfl, SqL.of (by assumption), (by rfl), ?_⟩) | (refine ⟨_, _, _, _, rfl, rfl, (by assumption), (by rfl), ?_⟩) | (refine ⟨_, _, _, _, rfl, rfl, SqL.of (by assumption), (by assumption), ?_⟩) | (refine ⟨_, _, rfl, .inl (SqL.of (by assumption)), ?_⟩) | (refine ⟨_, _, _, _, _, rfl, (by assumption), (by assumption), (by assumption), (by rfl), ?_⟩) | (refine ⟨_, _, _, _, rfl, (by assumption), (by assumption), (by assumption), (Nat.le_of_ble_eq_true rfl), ?_⟩) | (refine And.intro (by first | assumption | rfl | (show (0:Int) < _; omega) | (show CDiv _ _; exact ⟨by omega, by omega⟩) | (show CMul _ _; first | exact .inl ⟨by omega, by omega⟩ | exact .inr ⟨by omega, by omega⟩) | (show CPow _ _; exact ⟨by omega, by omega, by omega⟩) | (show (_ : Nat) ≤ sizeLine; exact Nat.le_of_ble_eq_true rfl)) ?_) ))
      refine ite2 (fun g3 => ?_) (fun g3 => ⟨rfl, kq.trans k3, pen3⟩)
      (repeat (first | (refine ⟨_, rfl, ?_⟩) | (refine ⟨_, _, rfl, rfl, ?_⟩) | (refine ⟨_, _, _, _, rfl, rfl, SqL.of (by assumption), (by rfl), ?_⟩) | (refine ⟨_, _, _, _, rfl, rfl, (by assumption), (by rfl), ?_⟩) | (refine ⟨_, _, _, _, rfl, rfl, SqL.of (by assumption), (by assumption), ?_⟩) | (refine ⟨_, _, rfl, .inl (SqL.of (by assumption)), ?_⟩) | (refine ⟨_, _, _, _, _, rfl, (by assumption), (by assumption), (by assumption), (by rfl), ?_⟩) | (refine ⟨_, _, _, _, rfl, (by assumption), (by assumption), (by assumption), (Nat.le_of_ble_eq_true rfl), ?_⟩) | (refine And.intro (by first | assumption | rfl | (show (0:Int) < _; omega) | (show CDiv _ _; exact ⟨by omega, by omega⟩) | (show CMul _ _; first | exact .inl ⟨by omega, by omega⟩ | exact .inr ⟨by omega, by omega⟩) | (show CPow _ _; exact ⟨by omega, by omega, by omega⟩) | (show (_ : Nat) ≤ sizeLine; exact Nat.le_of_ble_eq_true rfl)) ?_) ))
      exact fin (kq.trans k3) (pen3.le (by omega)) (.inr (by rw [gk]; exact hdk _)) (by rw [gl]; exact ⟨_, rfl, hdl _⟩)
    · rintro _ H1 ⟨rfl, kq, pen⟩
      refine ⟨fun σ' H' => σ' = [some (V.ref p), some (V.ref x), some (V.str b.name), some (V.ref cc), some (V.ref kk), some l] ∧ Kq H H' ∧ Pen H' p c (n + 2), ?_, ?_⟩
      · have hk1 := hk.kq kq
        (repeat (first | (refine ⟨_, rfl, ?_⟩) | (refine ⟨_, _, rfl, rfl, ?_⟩) | (refine ⟨_, _, _, _, rfl, rfl, SqL.of (by assumption), (by rfl), ?_⟩) | (refine ⟨_, _, _, _, rfl, rfl, (by assumption), (by rfl), ?_⟩) | (refine ⟨_, _, _, _, rfl, rfl, SqL.of (by assumption), (by assumption), ?_⟩) | (refine ⟨_, _, rfl, .inl (SqL.of (by assumption)), ?_⟩) | (refine ⟨_, _, _, _, _, rfl, (by assumption), (by assumption), (by assumption), (by rfl), ?_⟩) | (refine ⟨_, _, _, _, rfl, (by assumption), (by assumption), (by assumption), (Nat.le_of_ble_eq_true rfl), ?_⟩) | (refine And.intro (by first | assumption | rfl | (show (0:Int) < _; omega) | (show CDiv _ _; exact ⟨by omega, by omega⟩) | (show CMul _ _; first | exact .inl ⟨by omega, by omega⟩ | exact .inr ⟨by omega, by omega⟩) | (show CPow _ _; exact ⟨by omega, by omega, by omega⟩) | (show (_ : Nat) ≤ sizeLine; exact Nat.le_of_ble_eq_true rfl)) ?_) ))
        (intro e he; generalize eH : upd H1 e _ = H2; have k12 : Kp [] H1 H2 := eH ▸ Kp.new he; replace he := (congrFun eH.symm e).trans upd_same; clear eH; replace pen := Pen.same k12 pen; replace hk1 := StrL.same k12 hk1; replace kq := kq.trans k12.q; clear k12)
        refine ⟨_, _, _, rfl, rfl, SqL.of hk1, SqL.of he, ?_⟩
        (repeat (first | (refine ⟨_, rfl, ?_⟩) | (refine ⟨_, _, rfl, rfl, ?_⟩) | (refine ⟨_, _, _, _, rfl, rfl, SqL.of (by assumption), (by rfl), ?_⟩) | (refine ⟨_, _, _, _, rfl, rfl, (by assumption), (by rfl), ?_⟩) | (refine ⟨_, _, _, _, rfl, rfl, SqL.of (by assumption), (by assumption), ?_⟩) | (refine ⟨_, _, rfl, .inl (SqL.of (by assumption)), ?_⟩) | (refine ⟨_, _, _, _, _, rfl, (by assumption), (by assumption), (by assumption), (by rfl), ?_⟩) | (refine ⟨_, _, _, _, rfl, (by assumption), (by assumption), (by assumption), (Nat.le_of_ble_eq_true rfl), ?_⟩) | (refine And.intro (by first | assumption | rfl | (show (0:Int) < _; omega) | (show CDiv _ _; exact ⟨by omega, by omega⟩) | (show CMul _ _; first | exact .inl ⟨by omega, by omega⟩ | exact .inr ⟨by omega, by omega⟩) | (show CPow _ _; exact ⟨by omega, by omega, by omega⟩) | (show (_ : Nat) ≤ sizeLine; exact Nat.le_of_ble_eq_true rfl)) ?_) ))
        refine ite2 (fun g1 => ?_) (fun g1 => iteF ⟨rfl, kq, pen.le (by omega)⟩)
        have gk : b.key = [] := by cases h : b.key with | nil => rfl | cons _ _ => rw [h] at g1; simp at g1
        (repeat (first | (refine ⟨_, rfl, ?_⟩) | (refine ⟨_, _, rfl, rfl, ?_⟩) | (refine ⟨_, _, _, _, rfl, rfl, SqL.of (by assumption), (by rfl), ?_⟩) | (refine ⟨_, _, _, _, rfl, rfl, (by assumption), (by rfl), ?_⟩) | (refine ⟨_, _, _, _, rfl, rfl, SqL.of (by assumption), (by assumption), ?_⟩) | (refine ⟨_, _, rfl, .inl (SqL.of (by assumption)), ?_⟩) | (refine ⟨_, _, _, _, _, rfl, (by assumption), (by assumption), (by assumption), (by rfl), ?_⟩) | (refine ⟨_, _, _, _, rfl, (by assumption), (by assumption), (by assumption), (Nat.le_of_ble_eq_true rfl), ?_⟩) | (refine And.intro (by first | assumption | rfl | (show (0:Int) < _; omega) | (show CDiv _ _; exact ⟨by omega, by omega⟩) | (show CMul _ _; first | exact .inl ⟨by omega, by omega⟩ | exact .inr ⟨by omega, by omega⟩) | (show CPow _ _; exact ⟨by omega, by omega, by omega⟩) | (show (_ : Nat) ≤ sizeLine; exact Nat.le_of_ble_eq_true rfl)) ?_) ))
        refine ⟨p, c, _, n + 1, rfl, pen, by decide, by decide, by omega, fun d H3 d0 d1 k3 pen3 => ?_⟩
        (repeat (first | (refine ⟨_, rfl, ?_⟩) | (refine ⟨_, _, rfl, rfl, ?_⟩) | (refine ⟨_, _, _, _, rfl, rfl, SqL.of (by assumption), (by rfl), ?_⟩) | (refine ⟨_, _, _, _, rfl, rfl, (by assumption), (by rfl), ?_⟩) | (refine ⟨_, _, _, _, rfl, rfl, SqL.of (by assumption), (by assumption), ?_⟩) | (refine ⟨_, _, rfl, .inl (SqL.of (by assumption)), ?_⟩) | (refine ⟨_, _, _, _, _, rfl, (by assumption), (by assumption), (by assumption), (by rfl), ?_⟩) | (refine ⟨_, _, _, _, rfl, (by assumption), (by assumption), (by assumption), (Nat.le_of_ble_eq_true rfl), ?_⟩) | (refine And.intro (by first | assumption | rfl | (show (0:Int) < _; omega) | (show CDiv _ _; exact ⟨by omega, by omega⟩) | (show CMul _ _; first | exact .inl ⟨by omega, by omega⟩ | exact .inr ⟨by omega, by omega⟩) | (show CPow _ _; exact ⟨by omega, by omega, by omega⟩) | (show (_ : Nat) ≤ sizeLine; exact Nat.le_of_ble_eq_true rfl)) ?_) ))
        refine ite2 (fun g3 => ?_) (fun g3 => ⟨rfl, kq.trans k3, pen3.le (by omega)⟩)
        (repeat (first | (refine ⟨_, rfl, ?_⟩) | (refine ⟨_, _, rfl, rfl, ?_⟩) | (refine ⟨_, _, _, _, rfl, rfl, SqL.of (by assumption), (by rfl), ?_⟩) | (refine ⟨_, _, _, _, rfl, rfl, (by assumption), (by rfl), ?_⟩) | (refine ⟨_, _, _, _, rfl, rfl, SqL.of (by assumption), (by assumption), ?_⟩) | (refine ⟨_, _, rfl, .inl (SqL.of (by assumption)), ?_⟩) | (refine ⟨_, _, _, _, _, rfl, (by assumption), (by assumption), (by assumption), (by rfl), ?_⟩) | (refine ⟨_, _, _, _, rfl, (by assumption), (by assumption), (by assumption), (Nat.le_of_ble_eq_true rfl), ?_⟩) | (refine And.intro (by first | assumption | rfl | (show (0:Int) < _; omega) | (show CDiv _ _; exact ⟨by omega, by omega⟩) | (show CMul _ _; first | exact .inl ⟨by omega, by omega⟩ | exact .inr ⟨by omega, by omega⟩) | (show CPow _ _; exact ⟨by omega, by omega, by omega⟩) | (show (_ : Nat) ≤ sizeLine; exact Nat.le_of_ble_eq_true rfl)) ?_) ))
        exact fin (kq.trans k3) (pen3.le (by omega)) (.inr (by rw [gk]; exact hdk _)) (hl.kq (kq.trans k3))
      · rintro _ H2 ⟨rfl, kq, pen⟩
        refine ⟨fun σ' H' => σ' = [some (V.ref p), some (V.ref x), some (V.str b.name), some (V.ref cc), some (V.ref kk), some l] ∧ Kq H H' ∧ Pen H' p c (n + 3), ?_, ?_⟩
        · have hl1 := hl.kq kq
          (repeat (first | (refine ⟨_, rfl, ?_⟩) | (refine ⟨_, _, rfl, rfl, ?_⟩) | (refine ⟨_, _, _, _, rfl, rfl, SqL.of (by assumption), (by rfl), ?_⟩) | (refine ⟨_, _, _, _, rfl, rfl, (by assumption), (by rfl), ?_⟩) | (refine ⟨_, _, _, _, rfl, rfl, SqL.of (by assumption), (by assumption), ?_⟩) | (refine ⟨_, _, rfl, .inl (SqL.of (by assumption)), ?_⟩) | (refine ⟨_, _, _, _, _, rfl, (by assumption), (by assumption), (by assumption), (by rfl), ?_⟩) | (refine ⟨_, _, _, _, rfl, (by assumption), (by assumption), (by assumption), (Nat.le_of_ble_eq_true rfl), ?_⟩) | (refine And.intro (by first | assumption | rfl | (show (0:Int) < _; omega) | (show CDiv _ _; exact ⟨by omega, by omega⟩) | (show CMul _ _; first | exact .inl ⟨by omega, by omega⟩ | exact .inr ⟨by omega, by omega⟩) | (show CPow _ _; exact ⟨by omega, by omega, by omega⟩) | (show (_ : Nat) ≤ sizeLine; exact Nat.le_of_ble_eq_true rfl)) ?_) ))
          (intro t ht; generalize eH : upd H2 t _ = H3; have k12 : Kp [] H2 H3 := eH ▸ Kp.new ht; replace ht := (congrFun eH.symm t).trans upd_same; clear eH; replace pen := Pen.same k12 pen; replace hl1 := LieAt.same k12 hl1; replace kq := kq.trans k12.q; clear k12)
          refine ⟨_, _, hl1.dp, .tup (SqT.of ht) (.cons (.str _) .nil), b.lie.shaped ok.sok.lie, Lie.shaped .anyhow trivial, ?_⟩
          (repeat (first | (refine ⟨_, rfl, ?_⟩) | (refine ⟨_, _, rfl, rfl, ?_⟩) | (refine ⟨_, _, _, _, rfl, rfl, SqL.of (by assumption), (by rfl), ?_⟩) | (refine ⟨_, _, _, _, rfl, rfl, (by assumption), (by rfl), ?_⟩) | (refine ⟨_, _, _, _, rfl, rfl, SqL.of (by assumption), (by assumption), ?_⟩) | (refine ⟨_, _, rfl, .inl (SqL.of (by assumption)), ?_⟩) | (refine ⟨_, _, _, _, _, rfl, (by assumption), (by assumption), (by assumption), (by rfl), ?_⟩) | (refine ⟨_, _, _, _, rfl, (by assumption), (by assumption), (by assumption), (Nat.le_of_ble_eq_true rfl), ?_⟩) | (refine And.intro (by first | assumption | rfl | (show (0:Int) < _; omega) | (show CDiv _ _; exact ⟨by omega, by omega⟩) | (show CMul _ _; first | exact .inl ⟨by omega, by omega⟩ | exact .inr ⟨by omega, by omega⟩) | (show CPow _ _; exact ⟨by omega, by omega, by omega⟩) | (show (_ : Nat) ≤ sizeLine; exact Nat.le_of_ble_eq_true rfl)) ?_) ))
          refine ite2 (fun g2 => ?_) (fun g2 => iteF ⟨rfl, kq, pen.le (by omega)⟩)
          have gl : b.lie = .anyhow := of_decide_eq_true ((Lie.eqv b.lie .anyhow).symm.trans g2)
          (repeat (first | (refine ⟨_, rfl, ?_⟩) | (refine ⟨_, _, rfl, rfl, ?_⟩) | (refine ⟨_, _, _, _, rfl, rfl, SqL.of (by assumption), (by rfl), ?_⟩) | (refine ⟨_, _, _, _, rfl, rfl, (by assumption), (by rfl), ?_⟩) | (refine ⟨_, _, _, _, rfl, rfl, SqL.of (by assumption), (by assumption), ?_⟩) | (refine ⟨_, _, rfl, .inl (SqL.of (by assumption)), ?_⟩) | (refine ⟨_, _, _, _, _, rfl, (by assumption), (by assumption), (by assumption), (by rfl), ?_⟩) | (refine ⟨_, _, _, _, rfl, (by assumption), (by assumption), (by assumption), (Nat.le_of_ble_eq_true rfl), ?_⟩) | (refine And.intro (by first | assumption | rfl | (show (0:Int) < _; omega) | (show CDiv _ _; exact ⟨by omega, by omega⟩) | (show CMul _ _; first | exact .inl ⟨by omega, by omega⟩ | exact .inr ⟨by omega, by omega⟩) | (show CPow _ _; exact ⟨by omega, by omega, by omega⟩) | (show (_ : Nat) ≤ sizeLine; exact Nat.le_of_ble_eq_true rfl)) ?_) ))
          refine ⟨p, c, _, n + 2, rfl, pen, by decide, by decide, by omega, fun d H4 d0 d1 k4 pen4 => ?_⟩
          (repeat (first | (refine ⟨_, rfl, ?_⟩) | (refine ⟨_, _, rfl, rfl, ?_⟩) | (refine ⟨_, _, _, _, rfl, rfl, SqL.of (by assumption), (by rfl), ?_⟩) | (refine ⟨_, _, _, _, rfl, rfl, (by assumption), (by rfl), ?_⟩) | (refine ⟨_, _, _, _, rfl, rfl, SqL.of (by assumption), (by assumption), ?_⟩) | (refine ⟨_, _, rfl, .inl (SqL.of (by assumption)), ?_⟩) | (refine ⟨_, _, _, _, _, rfl, (by assumption), (by assumption), (by assumption), (by rfl), ?_⟩) | (refine ⟨_, _, _, _, rfl, (by assumption), (by assumption), (by assumption), (Nat.le_of_ble_eq_true rfl), ?_⟩) | (refine And.intro (by first | assumption | rfl | (show (0:Int) < _; omega) | (show CDiv _ _; exact ⟨by omega, by omega⟩) | (show CMul _ _; first | exact .inl ⟨by omega, by omega⟩ | exact .inr ⟨by omega, by omega⟩) | (show CPow _ _; exact ⟨by omega, by omega, by omega⟩) | (show (_ : Nat) ≤ sizeLine; exact Nat.le_of_ble_eq_true rfl)) ?_) ))
          refine ite2 (fun g3 => ?_) (fun g3 => ⟨rfl, kq.trans k4, pen4.le (by omega)⟩)
          (repeat (first | (refine ⟨_, rfl, ?_⟩) | (refine ⟨_, _, rfl, rfl, ?_⟩) | (refine ⟨_, _, _, _, rfl, rfl, SqL.of (by assumption), (by rfl), ?_⟩) | (refine ⟨_, _, _, _, rfl, rfl, (by assumption), (by rfl), ?_⟩) | (refine ⟨_, _, _, _, rfl, rfl, SqL.of (by assumption), (by assumption), ?_⟩) | (refine ⟨_, _, rfl, .inl (SqL.of (by assumption)), ?_⟩) | (refine ⟨_, _, _, _, _, rfl, (by assumption), (by assumption), (by assumption), (by rfl), ?_⟩) | (refine ⟨_, _, _, _, rfl, (by assumption), (by assumption), (by assumption), (Nat.le_of_ble_eq_true rfl), ?_⟩) | (refine And.intro (by first | assumption | rfl | (show (0:Int) < _; omega) | (show CDiv _ _; exact ⟨by omega, by omega⟩) | (show CMul _ _; first | exact .inl ⟨by omega, by omega⟩ | exact .inr ⟨by omega, by omega⟩) | (show CPow _ _; exact ⟨by omega, by omega, by omega⟩) | (show (_ : Nat) ≤ sizeLine; exact Nat.le_of_ble_eq_true rfl)) ?_) ))
          exact fin (kq.trans k4) (pen4.le (by omega)) (.inl (SqL.of (hk.kq (kq.trans k4)))) (by rw [gl]; exact ⟨_, rfl, hdl _⟩)
        · rintro _ H3 ⟨rfl, kq, pen⟩
          (repeat (first | (refine ⟨_, rfl, ?_⟩) | (refine ⟨_, _, rfl, rfl, ?_⟩) | (refine ⟨_, _, _, _, rfl, rfl, SqL.of (by assumption), (by rfl), ?_⟩) | (refine ⟨_, _, _, _, rfl, rfl, (by assumption), (by rfl), ?_⟩) | (refine ⟨_, _, _, _, rfl, rfl, SqL.of (by assumption), (by assumption), ?_⟩) | (refine ⟨_, _, rfl, .inl (SqL.of (by assumption)), ?_⟩) | (refine ⟨_, _, _, _, _, rfl, (by assumption), (by assumption), (by assumption), (by rfl), ?_⟩) | (refine ⟨_, _, _, _, rfl, (by assumption), (by assumption), (by assumption), (Nat.le_of_ble_eq_true rfl), ?_⟩) | (refine And.intro (by first | assumption | rfl | (show (0:Int) < _; omega) | (show CDiv _ _; exact ⟨by omega, by omega⟩) | (show CMul _ _; first | exact .inl ⟨by omega, by omega⟩ | exact .inr ⟨by omega, by omega⟩) | (show CPow _ _; exact ⟨by omega, by omega, by omega⟩) | (show (_ : Nat) ≤ sizeLine; exact Nat.le_of_ble_eq_true rfl)) ?_) ))
          exact fin kq pen (.inl (SqL.of (hk.kq kq))) (hl.kq kq)
end
end K14

namespace K14
open PySem L2 GB G1 Tb TL
def spKeyed (K : PySem.W.Frag) (C : Addr) : Sp := fun vs H Q _ => ∃ (v : V) (a : Addr) (b : Bare) (ks : List Str), vs = [v, .ref a] ∧ TabAt K C H v b ∧ StrL H a ks ∧ ks.length ≤ 3 ∧ BOk { b with key := ks } ∧ ∀ r H', Kp [] H H' → TabAt K C H' r { b with key := ks } → Q r H'
def spRow (K : PySem.W.Frag) : Sp := fun vs H Q _ => ∃ (v : V) (b : Bare), vs = [v] ∧ BareAt K H v b ∧ BOk b ∧ ∀ H', Kp [] H H' → Q (.str (row b)) H'
theorem putL {H : Hp} {x b : Addr} {u o : HO} {zs : List V} (h : H x = some (.lst zs)) (n : ∀ zs, u ≠ .lst zs) (e : H b = some u) : upd H x o b = some u := by
  rw [upd_ne (fun z => by subst z; rw [h] at e; exact n _ (Option.some.inj e).symm)]; exact e
theorem SqT.putL {K : PySem.W.Frag} {H : Hp} {x a : Addr} {o : HO} {zs xs : List V} (h : H x = some (.lst zs)) (e : SqT K H a xs) : SqT K (upd H x o) a xs := by
  rcases e with (e | ⟨y, e⟩) | e
  · exact .inl (.inl (K14.putL h (fun _ w => nomatch w) e))
  · exact .inl (.inr ⟨y, K14.putL h (fun _ w => nomatch w) e⟩)
  · exact .inr e
theorem LieAt.putL {K : PySem.W.Frag} {H : Hp} {x : Addr} {o : HO} {zs : List V} {v : V} {l : Lie} (h : H x = some (.lst zs)) (e : LieAt K H v l) : LieAt K (upd H x o) v l := by
  cases l with
  | dealt r cs => obtain ⟨a, b, e, h1, h2⟩ := e; exact ⟨a, b, e, SqT.putL h h1, SqT.putL h h2⟩
  | _ => obtain ⟨a, e, h1⟩ := e; exact ⟨a, e, SqT.putL h h1⟩
theorem lieHead {K : PySem.W.Frag} {H : Hp} {v : V} {l : Lie} (h : LieAt K H v l) : (∃ a w, v = .ref a ∧ SqT K H a [.str w] ∧ Lw l = [w] ∧ w ≠ "dealt") ∨ ∃ a b r cs, v = .ref a ∧ l = .dealt r cs ∧ SqT K H a [.str "dealt", .str r, .ref b] ∧ SqT K H b (cs.map .str) := by
  cases l with
  | dealt r cs => obtain ⟨a, b, e, h1, h2⟩ := h; exact .inr ⟨a, b, r, cs, e, rfl, h1, h2⟩
  | _ => obtain ⟨a, e, h1⟩ := h; exact .inl ⟨a, _, e, h1, rfl, by decide +kernel⟩
section
variable {P : Program} {w : World} {K : PySem.W.Frag} {mg : Str → Option Value} {base : Heap} {aW aP C dk dl : Addr}
theorem cKeyed (D : Dfn K mg "_law_keyed" s_law_keyed) (T : Txt K mg aW aP C) (F : TabF K C) (mKey : MetR P w K mg base 5 C "with_key" (spStar 1 (spWithKey K C))) : Cal P w K mg base 6 "_law_keyed" (spKeyed K C) := by
  refine cal D sc_law_keyed (fun _ _ _ _ _ _ us hl => match us, hl with | [_, _], _ => rfl) (fun vs H Q E h => ?_) (fun f cdv A outer s H vs Q E hr h => ?_)
  · obtain ⟨v, a, b, ks, rfl, _⟩ := h; rfl
  · obtain ⟨v, a, b, ks, rfl, ht, ha, l3, ok, q⟩ := h
    refine ⟨_, (pss_cons (ps_if (pt_cmpR (op_eqNil hr) (pv 1) (pe_lst pa_nil) (nomark _)) (pss_one (ps_ret (pe_mtR0 F.cls mKey hr (by decide) (pv 0)))) pss_nil)
      (pss_cons (ps_if (pt_cmpR op_eq (pe_callB call_len_seq (by rfl) T.n_len (by decide +kernel) (pa_cons (pv 1) pa_nil)) pe_int (nomark _)) (pss_one (ps_ret (pe_mtR F.cls mKey hr (by decide) (pv 0) (pa_cons (pe_ix ix_list (pv 1) pe_int (fun _ _ => rfl)) pa_nil)))) pss_nil)
      (pss_cons (ps_if (pt_cmpR op_eq (pe_callB call_len_seq (by rfl) T.n_len (by decide +kernel) (pa_cons (pv 1) pa_nil)) pe_int (nomark _)) (pss_one (ps_ret (pe_mtR F.cls mKey hr (by decide) (pv 0) (pa_cons (pe_ix ix_list (pv 1) pe_int (fun _ _ => rfl)) (pa_cons (pe_ix ix_list (pv 1) pe_int (fun _ _ => rfl)) pa_nil))))) pss_nil)
      (pss_one (ps_ret (pe_mtR F.cls mKey hr (by decide) (pv 0) (pa_cons (pe_ix ix_list (pv 1) pe_int (fun _ _ => rfl)) (pa_cons (pe_ix ix_list (pv 1) pe_int (fun _ _ => rfl)) (pa_cons (pe_ix ix_list (pv 1) pe_int (fun _ _ => rfl)) pa_nil))))))))), ?_⟩
    show (_ : TS) _ [some v, some (V.ref a)] H
    obtain ⟨x, dx, c, y, l, rfl, hx, hc, hy, hl⟩ := ht
    have kp : Kp [] H H := Kp.refl _ _
    (repeat (first | (refine ⟨_, rfl, ?_⟩) | (refine ⟨_, _, rfl, rfl, ?_⟩) | (refine ⟨_, _, _, _, rfl, rfl, SqL.of (by assumption), (by rfl), ?_⟩) | (refine ⟨_, _, _, _, rfl, rfl, (by assumption), (by rfl), ?_⟩) | (refine ⟨_, _, _, _, rfl, rfl, SqL.of (by assumption), (by assumption), ?_⟩) | (refine ⟨_, _, rfl, .inl (SqL.of (by assumption)), ?_⟩) | (refine ⟨_, _, _, _, _, rfl, (by assumption), (by assumption), (by assumption), (by rfl), ?_⟩) | (refine ⟨_, _, _, _, rfl, (by assumption), (by assumption), (by assumption), (Nat.le_of_ble_eq_true rfl), ?_⟩) | (refine And.intro (by first | assumption | rfl | (show (0:Int) < _; omega) | (show CDiv _ _; exact ⟨by omega, by omega⟩) | (show CMul _ _; first | exact .inl ⟨by omega, by omega⟩ | exact .inr ⟨by omega, by omega⟩) | (show CPow _ _; exact ⟨by omega, by omega, by omega⟩) | (show (_ : Nat) ≤ sizeLine; exact Nat.le_of_ble_eq_true rfl)) ?_) ))
    (intro e he; generalize eH : upd H e _ = H1; have k12 : Kp [] H H1 := eH ▸ Kp.new he; replace he := (congrFun eH.symm e).trans upd_same; clear eH; replace hx := k12.same _ _ hx; replace hc := StrL.same k12 hc; replace hy := StrL.same k12 hy; replace hl := LieAt.same k12 hl; replace ha := StrL.same k12 ha; replace kp := kp.trans (k12.mono (fun _ z => nomatch z)); clear k12)
    refine ⟨_, _, _, rfl, rfl, SqL.of ha, SqL.of he, ?_⟩
    have fin : ∀ rest : List V, rest = ks.map V.str → spStar 1 (spWithKey K C) (V.ref x :: rest) H1 Q E0 := by
      rintro _ rfl
      refine ⟨[.ref x], _, rfl, rfl, by rw [List.length_map]; exact Nat.le_trans l3 (by decide), fun p hp => ?_⟩
      have k2 : Kp [] H1 (upd H1 p (.tup (ks.map V.str))) := Kp.new hp
      exact ⟨_, p, b, ks, rfl, TabAt.same k2 ⟨x, dx, c, y, l, rfl, hx, hc, hy, hl⟩, SqT.of upd_same, ok, fun r H' k' t => q r H' ((kp.trans k2).trans k') t⟩
    (repeat (first | (refine ⟨_, rfl, ?_⟩) | (refine ⟨_, _, rfl, rfl, ?_⟩) | (refine ⟨_, _, _, _, rfl, rfl, SqL.of (by assumption), (by rfl), ?_⟩) | (refine ⟨_, _, _, _, rfl, rfl, (by assumption), (by rfl), ?_⟩) | (refine ⟨_, _, _, _, rfl, rfl, SqL.of (by assumption), (by assumption), ?_⟩) | (refine ⟨_, _, rfl, .inl (SqL.of (by assumption)), ?_⟩) | (refine ⟨_, _, _, _, _, rfl, (by assumption), (by assumption), (by assumption), (by rfl), ?_⟩) | (refine ⟨_, _, _, _, rfl, (by assumption), (by assumption), (by assumption), (Nat.le_of_ble_eq_true rfl), ?_⟩) | (refine And.intro (by first | assumption | rfl | (show (0:Int) < _; omega) | (show CDiv _ _; exact ⟨by omega, by omega⟩) | (show CMul _ _; first | exact .inl ⟨by omega, by omega⟩ | exact .inr ⟨by omega, by omega⟩) | (show CPow _ _; exact ⟨by omega, by omega, by omega⟩) | (show (_ : Nat) ≤ sizeLine; exact Nat.le_of_ble_eq_true rfl)) ?_) ))
    refine ite2 (fun g => ?_) (fun g => ?_)
    · (repeat (first | (refine ⟨_, rfl, ?_⟩) | (refine ⟨_, _, rfl, rfl, ?_⟩) | (refine ⟨_, _, _, _, rfl, rfl, SqL.of (by assumption), (by rfl), ?_⟩) | (refine ⟨_, _, _, _, rfl, rfl, (by assumption), (by rfl), ?_⟩) | (refine ⟨_, _, _, _, rfl, rfl, SqL.of (by assumption), (by assumption), ?_⟩) | (refine ⟨_, _, rfl, .inl (SqL.of (by assumption)), ?_⟩) | (refine ⟨_, _, _, _, _, rfl, (by assumption), (by assumption), (by assumption), (by rfl), ?_⟩) | (refine ⟨_, _, _, _, rfl, (by assumption), (by assumption), (by assumption), (Nat.le_of_ble_eq_true rfl), ?_⟩) | (refine And.intro (by first | assumption | rfl | (show (0:Int) < _; omega) | (show CDiv _ _; exact ⟨by omega, by omega⟩) | (show CMul _ _; first | exact .inl ⟨by omega, by omega⟩ | exact .inr ⟨by omega, by omega⟩) | (show CPow _ _; exact ⟨by omega, by omega, by omega⟩) | (show (_ : Nat) ≤ sizeLine; exact Nat.le_of_ble_eq_true rfl)) ?_) ))
      refine ⟨x, dx, _, rfl, hx, rfl, ?_⟩
      refine fin [] ?_
      cases ks with | nil => rfl | cons _ _ => simp at g
    · (repeat (first | (refine ⟨_, rfl, ?_⟩) | (refine ⟨_, _, rfl, rfl, ?_⟩) | (refine ⟨_, _, _, _, rfl, rfl, SqL.of (by assumption), (by rfl), ?_⟩) | (refine ⟨_, _, _, _, rfl, rfl, (by assumption), (by rfl), ?_⟩) | (refine ⟨_, _, _, _, rfl, rfl, SqL.of (by assumption), (by assumption), ?_⟩) | (refine ⟨_, _, rfl, .inl (SqL.of (by assumption)), ?_⟩) | (refine ⟨_, _, _, _, _, rfl, (by assumption), (by assumption), (by assumption), (by rfl), ?_⟩) | (refine ⟨_, _, _, _, rfl, (by assumption), (by assumption), (by assumption), (Nat.le_of_ble_eq_true rfl), ?_⟩) | (refine And.intro (by first | assumption | rfl | (show (0:Int) < _; omega) | (show CDiv _ _; exact ⟨by omega, by omega⟩) | (show CMul _ _; first | exact .inl ⟨by omega, by omega⟩ | exact .inr ⟨by omega, by omega⟩) | (show CPow _ _; exact ⟨by omega, by omega, by omega⟩) | (show (_ : Nat) ≤ sizeLine; exact Nat.le_of_ble_eq_true rfl)) ?_) ))
      match ks, l3, fin, ha, g with
      | [], _, _, _, g => exact absurd rfl g
      | [k1], _, fin, ha, _ =>
        refine ite2 (fun g1 => ?_) (fun g1 => absurd (by simp) g1)
        (repeat (first | (refine ⟨_, rfl, ?_⟩) | (refine ⟨_, _, rfl, rfl, ?_⟩) | (refine ⟨_, _, _, _, rfl, rfl, SqL.of (by assumption), (by rfl), ?_⟩) | (refine ⟨_, _, _, _, rfl, rfl, (by assumption), (by rfl), ?_⟩) | (refine ⟨_, _, _, _, rfl, rfl, SqL.of (by assumption), (by assumption), ?_⟩) | (refine ⟨_, _, rfl, .inl (SqL.of (by assumption)), ?_⟩) | (refine ⟨_, _, _, _, _, rfl, (by assumption), (by assumption), (by assumption), (by rfl), ?_⟩) | (refine ⟨_, _, _, _, rfl, (by assumption), (by assumption), (by assumption), (Nat.le_of_ble_eq_true rfl), ?_⟩) | (refine And.intro (by first | assumption | rfl | (show (0:Int) < _; omega) | (show CDiv _ _; exact ⟨by omega, by omega⟩) | (show CMul _ _; first | exact .inl ⟨by omega, by omega⟩ | exact .inr ⟨by omega, by omega⟩) | (show CPow _ _; exact ⟨by omega, by omega, by omega⟩) | (show (_ : Nat) ≤ sizeLine; exact Nat.le_of_ble_eq_true rfl)) ?_) ))
        refine ⟨x, dx, _, rfl, hx, rfl, ?_⟩
        (repeat (first | (refine ⟨_, rfl, ?_⟩) | (refine ⟨_, _, rfl, rfl, ?_⟩) | (refine ⟨_, _, _, _, rfl, rfl, SqL.of (by assumption), (by rfl), ?_⟩) | (refine ⟨_, _, _, _, rfl, rfl, (by assumption), (by rfl), ?_⟩) | (refine ⟨_, _, _, _, rfl, rfl, SqL.of (by assumption), (by assumption), ?_⟩) | (refine ⟨_, _, rfl, .inl (SqL.of (by assumption)), ?_⟩) | (refine ⟨_, _, _, _, _, rfl, (by assumption), (by assumption), (by assumption), (by rfl), ?_⟩) | (refine ⟨_, _, _, _, rfl, (by assumption), (by assumption), (by assumption), (Nat.le_of_ble_eq_true rfl), ?_⟩) | (refine And.intro (by first | assumption | rfl | (show (0:Int) < _; omega) | (show CDiv _ _; exact ⟨by omega, by omega⟩) | (show CMul _ _; first | exact .inl ⟨by omega, by omega⟩ | exact .inr ⟨by omega, by omega⟩) | (show CPow _ _; exact ⟨by omega, by omega, by omega⟩) | (show (_ : Nat) ≤ sizeLine; exact Nat.le_of_ble_eq_true rfl)) ?_) ))
        exact fin _ rfl
      | [k1, k2], _, fin, ha, _ =>
        refine ite2 (fun g1 => absurd g1 (by simp)) (fun g1 => ?_)
        (repeat (first | (refine ⟨_, rfl, ?_⟩) | (refine ⟨_, _, rfl, rfl, ?_⟩) | (refine ⟨_, _, _, _, rfl, rfl, SqL.of (by assumption), (by rfl), ?_⟩) | (refine ⟨_, _, _, _, rfl, rfl, (by assumption), (by rfl), ?_⟩) | (refine ⟨_, _, _, _, rfl, rfl, SqL.of (by assumption), (by assumption), ?_⟩) | (refine ⟨_, _, rfl, .inl (SqL.of (by assumption)), ?_⟩) | (refine ⟨_, _, _, _, _, rfl, (by assumption), (by assumption), (by assumption), (by rfl), ?_⟩) | (refine ⟨_, _, _, _, rfl, (by assumption), (by assumption), (by assumption), (Nat.le_of_ble_eq_true rfl), ?_⟩) | (refine And.intro (by first | assumption | rfl | (show (0:Int) < _; omega) | (show CDiv _ _; exact ⟨by omega, by omega⟩) | (show CMul _ _; first | exact .inl ⟨by omega, by omega⟩ | exact .inr ⟨by omega, by omega⟩) | (show CPow _ _; exact ⟨by omega, by omega, by omega⟩) | (show (_ : Nat) ≤ sizeLine; exact Nat.le_of_ble_eq_true rfl)) ?_) ))
        refine ⟨x, dx, _, rfl, hx, rfl, ?_⟩
        (repeat (first | (refine ⟨_, rfl, ?_⟩) | (refine ⟨_, _, rfl, rfl, ?_⟩) | (refine ⟨_, _, _, _, rfl, rfl, SqL.of (by assumption), (by rfl), ?_⟩) | (refine ⟨_, _, _, _, rfl, rfl, (by assumption), (by rfl), ?_⟩) | (refine ⟨_, _, _, _, rfl, rfl, SqL.of (by assumption), (by assumption), ?_⟩) | (refine ⟨_, _, rfl, .inl (SqL.of (by assumption)), ?_⟩) | (refine ⟨_, _, _, _, _, rfl, (by assumption), (by assumption), (by assumption), (by rfl), ?_⟩) | (refine ⟨_, _, _, _, rfl, (by assumption), (by assumption), (by assumption), (Nat.le_of_ble_eq_true rfl), ?_⟩) | (refine And.intro (by first | assumption | rfl | (show (0:Int) < _; omega) | (show CDiv _ _; exact ⟨by omega, by omega⟩) | (show CMul _ _; first | exact .inl ⟨by omega, by omega⟩ | exact .inr ⟨by omega, by omega⟩) | (show CPow _ _; exact ⟨by omega, by omega, by omega⟩) | (show (_ : Nat) ≤ sizeLine; exact Nat.le_of_ble_eq_true rfl)) ?_) ))
        exact fin _ rfl
      | [k1, k2, k3], _, fin, ha, _ =>
        refine ite2 (fun g1 => absurd g1 (by simp)) (fun g1 => ?_)
        (repeat (first | (refine ⟨_, rfl, ?_⟩) | (refine ⟨_, _, rfl, rfl, ?_⟩) | (refine ⟨_, _, _, _, rfl, rfl, SqL.of (by assumption), (by rfl), ?_⟩) | (refine ⟨_, _, _, _, rfl, rfl, (by assumption), (by rfl), ?_⟩) | (refine ⟨_, _, _, _, rfl, rfl, SqL.of (by assumption), (by assumption), ?_⟩) | (refine ⟨_, _, rfl, .inl (SqL.of (by assumption)), ?_⟩) | (refine ⟨_, _, _, _, _, rfl, (by assumption), (by assumption), (by assumption), (by rfl), ?_⟩) | (refine ⟨_, _, _, _, rfl, (by assumption), (by assumption), (by assumption), (Nat.le_of_ble_eq_true rfl), ?_⟩) | (refine And.intro (by first | assumption | rfl | (show (0:Int) < _; omega) | (show CDiv _ _; exact ⟨by omega, by omega⟩) | (show CMul _ _; first | exact .inl ⟨by omega, by omega⟩ | exact .inr ⟨by omega, by omega⟩) | (show CPow _ _; exact ⟨by omega, by omega, by omega⟩) | (show (_ : Nat) ≤ sizeLine; exact Nat.le_of_ble_eq_true rfl)) ?_) ))
        refine ⟨x, dx, _, rfl, hx, rfl, ?_⟩
        (repeat (first | (refine ⟨_, rfl, ?_⟩) | (refine ⟨_, _, rfl, rfl, ?_⟩) | (refine ⟨_, _, _, _, rfl, rfl, SqL.of (by assumption), (by rfl), ?_⟩) | (refine ⟨_, _, _, _, rfl, rfl, (by assumption), (by rfl), ?_⟩) | (refine ⟨_, _, _, _, rfl, rfl, SqL.of (by assumption), (by assumption), ?_⟩) | (refine ⟨_, _, rfl, .inl (SqL.of (by assumption)), ?_⟩) | (refine ⟨_, _, _, _, _, rfl, (by assumption), (by assumption), (by assumption), (by rfl), ?_⟩) | (refine ⟨_, _, _, _, rfl, (by assumption), (by assumption), (by assumption), (Nat.le_of_ble_eq_true rfl), ?_⟩) | (refine And.intro (by first | assumption | rfl | (show (0:Int) < _; omega) | (show CDiv _ _; exact ⟨by omega, by omega⟩) | (show CMul _ _; first | exact .inl ⟨by omega, by omega⟩ | exact .inr ⟨by omega, by omega⟩) | (show CPow _ _; exact ⟨by omega, by omega, by omega⟩) | (show (_ : Nat) ≤ sizeLine; exact Nat.le_of_ble_eq_true rfl)) ?_) ))
        exact fin _ rfl
theorem cRow (D : Dfn K mg "_law_row_of" s_law_row_of) (T : Txt K mg aW aP C) : Cal P w K mg base 1 "_law_row_of" (spRow K) := by
  refine cal D sc_law_row_of (fun _ _ _ _ _ _ us hl => match us, hl with | [_], _ => rfl) (fun vs H Q E h => ?_) (fun f cdv A outer s H vs Q E hr h => ?_)
  · obtain ⟨v, b, rfl, _⟩ := h; rfl
  · obtain ⟨v, b, rfl, ht, ok, k⟩ := h
    refine ⟨_, (pss_cons (ps_asg (pv 0) (pg_unl rfl (pgs_cons (pg_name (i := 1) sc_law_row_of.nd rfl (Or.inl rfl)) (pgs_cons (pg_name (i := 2) sc_law_row_of.nd rfl (Or.inl rfl)) (pgs_cons (pg_name (i := 3) sc_law_row_of.nd rfl (Or.inl rfl)) (pgs_cons (pg_name (i := 4) sc_law_row_of.nd rfl (Or.inl rfl)) pgs_nil))))))
      (pss_cons (ps_set (i := 5) sc_law_row_of.nd rfl (Or.inl rfl) (pe_op op_cat (pe_lst (pa_cons pe_str (pa_cons (pv 1) pa_nil))) (pv 2)))
      (pss_cut (ps_if (pt_cmpR (op_neNil hr) (pv 3) (pe_lst pa_nil) (nomark _)) (pss_one (ps_set (i := 5) sc_law_row_of.nd rfl (Or.inl rfl) (pe_op op_cat (pe_op op_cat (pv 5) (pe_lst (pa_cons pe_str pa_nil))) (pv 3)))) pss_nil)
      (pss_cons (ps_expr (pe_bm PySem.F.plainAttrs_list PySem.F.slot_list_append PySem.F.type_list_append mt_append (pv 5) (pa_cons (pe_ix ix_tup (pv 4) pe_int (fun _ _ => rfl)) pa_nil)))
      (pss_cut (ps_if (pt_cmpR op_eq (pe_ix ix_tup (pv 4) pe_int (fun _ _ => rfl)) pe_str (nomark _)) (pss_one (ps_set (i := 5) sc_law_row_of.nd rfl (Or.inl rfl) (pe_op op_cat (pe_op op_cat (pv 5) (pe_lst (pa_cons (pe_ix ix_tup (pv 4) pe_int (fun _ _ => rfl)) pa_nil))) (pe_callTy call_list_of (by rfl) T.n_list (by decide +kernel) (pa_cons (pe_ix ix_tup (pv 4) pe_int (fun _ _ => rfl)) pa_nil))))) pss_nil)
      (pss_one (ps_ret (pe_join pe_str (pv 5))))))))), ?_⟩
    show (_ : TS) _ [some v, none, none, none, none, none] H
    obtain ⟨x, cc, kk, l, rfl, hx, hc, hk, hl⟩ := ht
    have kp : Kp [] H H := Kp.refl _ _
    (repeat (first | (refine ⟨_, rfl, ?_⟩) | (refine ⟨_, _, rfl, rfl, ?_⟩) | (refine ⟨_, _, _, _, rfl, rfl, SqL.of (by assumption), (by rfl), ?_⟩) | (refine ⟨_, _, _, _, rfl, rfl, (by assumption), (by rfl), ?_⟩) | (refine ⟨_, _, _, _, rfl, rfl, SqL.of (by assumption), (by assumption), ?_⟩) | (refine ⟨_, _, rfl, .inl (SqL.of (by assumption)), ?_⟩) | (refine ⟨_, _, _, _, _, rfl, (by assumption), (by assumption), (by assumption), (by rfl), ?_⟩) | (refine ⟨_, _, _, _, rfl, (by assumption), (by assumption), (by assumption), (Nat.le_of_ble_eq_true rfl), ?_⟩) | (refine And.intro (by first | assumption | rfl | (show (0:Int) < _; omega) | (show CDiv _ _; exact ⟨by omega, by omega⟩) | (show CMul _ _; first | exact .inl ⟨by omega, by omega⟩ | exact .inr ⟨by omega, by omega⟩) | (show CPow _ _; exact ⟨by omega, by omega, by omega⟩) | (show (_ : Nat) ≤ sizeLine; exact Nat.le_of_ble_eq_true rfl)) ?_) ))
    refine ⟨_, _, rfl, SqL.of hx, rfl, ?_⟩
    refine ⟨_, _, rfl, _, _, rfl, _, _, rfl, _, _, rfl, rfl, ?_⟩
    (repeat (first | (refine ⟨_, rfl, ?_⟩) | (refine ⟨_, _, rfl, rfl, ?_⟩) | (refine ⟨_, _, _, _, rfl, rfl, SqL.of (by assumption), (by rfl), ?_⟩) | (refine ⟨_, _, _, _, rfl, rfl, (by assumption), (by rfl), ?_⟩) | (refine ⟨_, _, _, _, rfl, rfl, SqL.of (by assumption), (by assumption), ?_⟩) | (refine ⟨_, _, rfl, .inl (SqL.of (by assumption)), ?_⟩) | (refine ⟨_, _, _, _, _, rfl, (by assumption), (by assumption), (by assumption), (by rfl), ?_⟩) | (refine ⟨_, _, _, _, rfl, (by assumption), (by assumption), (by assumption), (Nat.le_of_ble_eq_true rfl), ?_⟩) | (refine And.intro (by first | assumption | rfl | (show (0:Int) < _; omega) | (show CDiv _ _; exact ⟨by omega, by omega⟩) | (show CMul _ _; first | exact .inl ⟨by omega, by omega⟩ | exact .inr ⟨by omega, by omega⟩) | (show CPow _ _; exact ⟨by omega, by omega, by omega⟩) | (show (_ : Nat) ≤ sizeLine; exact Nat.le_of_ble_eq_true rfl)) ?_) ))
    (intro a ha; generalize eH : upd H a _ = H1; have k12 : Kp [] H H1 := eH ▸ Kp.new ha; replace ha := (congrFun eH.symm a).trans upd_same; clear eH; replace hx := k12.same _ _ hx; replace hc := StrL.same k12 hc; replace hk := StrL.same k12 hk; replace hl := LieAt.same k12 hl; replace kp := kp.trans (k12.mono (fun _ z => nomatch z)); clear k12)
    (repeat (first | (refine ⟨_, rfl, ?_⟩) | (refine ⟨_, _, rfl, rfl, ?_⟩) | (refine ⟨_, _, _, _, rfl, rfl, SqL.of (by assumption), (by rfl), ?_⟩) | (refine ⟨_, _, _, _, rfl, rfl, (by assumption), (by rfl), ?_⟩) | (refine ⟨_, _, _, _, rfl, rfl, SqL.of (by assumption), (by assumption), ?_⟩) | (refine ⟨_, _, rfl, .inl (SqL.of (by assumption)), ?_⟩) | (refine ⟨_, _, _, _, _, rfl, (by assumption), (by assumption), (by assumption), (by rfl), ?_⟩) | (refine ⟨_, _, _, _, rfl, (by assumption), (by assumption), (by assumption), (Nat.le_of_ble_eq_true rfl), ?_⟩) | (refine And.intro (by first | assumption | rfl | (show (0:Int) < _; omega) | (show CDiv _ _; exact ⟨by omega, by omega⟩) | (show CMul _ _; first | exact .inl ⟨by omega, by omega⟩ | exact .inr ⟨by omega, by omega⟩) | (show CPow _ _; exact ⟨by omega, by omega, by omega⟩) | (show (_ : Nat) ≤ sizeLine; exact Nat.le_of_ble_eq_true rfl)) ?_) ))
    have l1 := ok.cl
    have l2 := ok.kl
    refine ⟨_, _, _, _, rfl, rfl, ha, hc, by simp; exact Nat.le_trans (m := 100) (by omega) (by decide), ?_⟩
    (intro p hp; have fp := kp.dom p hp; generalize eH : upd H1 p _ = H2; have k12 : Kp [] H1 H2 := eH ▸ Kp.new hp; replace hp := (congrFun eH.symm p).trans upd_same; clear eH; replace hx := k12.same _ _ hx; replace hc := StrL.same k12 hc; replace hk := StrL.same k12 hk; replace hl := LieAt.same k12 hl; replace kp := kp.trans (k12.mono (fun _ z => nomatch z)); clear k12)
    replace hp : StrL H2 p (w1 b) := by show H2 p = _; simpa [w1] using hp
    refine ⟨fun σ' H' => ∃ q : Addr, σ' = [some (V.ref x), some (V.str b.name), some (V.ref cc), some (V.ref kk), some l, some (V.ref q)] ∧ StrL H' q (w1 b ++ kw b) ∧ H q = none ∧ Kp [] H2 H', ?_, ?_⟩
    · have k2 : Kp [] H2 H2 := Kp.refl _ _
      (repeat (first | (refine ⟨_, rfl, ?_⟩) | (refine ⟨_, _, rfl, rfl, ?_⟩) | (refine ⟨_, _, _, _, rfl, rfl, SqL.of (by assumption), (by rfl), ?_⟩) | (refine ⟨_, _, _, _, rfl, rfl, (by assumption), (by rfl), ?_⟩) | (refine ⟨_, _, _, _, rfl, rfl, SqL.of (by assumption), (by assumption), ?_⟩) | (refine ⟨_, _, rfl, .inl (SqL.of (by assumption)), ?_⟩) | (refine ⟨_, _, _, _, _, rfl, (by assumption), (by assumption), (by assumption), (by rfl), ?_⟩) | (refine ⟨_, _, _, _, rfl, (by assumption), (by assumption), (by assumption), (Nat.le_of_ble_eq_true rfl), ?_⟩) | (refine And.intro (by first | assumption | rfl | (show (0:Int) < _; omega) | (show CDiv _ _; exact ⟨by omega, by omega⟩) | (show CMul _ _; first | exact .inl ⟨by omega, by omega⟩ | exact .inr ⟨by omega, by omega⟩) | (show CPow _ _; exact ⟨by omega, by omega, by omega⟩) | (show (_ : Nat) ≤ sizeLine; exact Nat.le_of_ble_eq_true rfl)) ?_) ))
      (intro e he; generalize eH : upd H2 e _ = H3; have k12 : Kp [] H2 H3 := eH ▸ Kp.new he; replace he := (congrFun eH.symm e).trans upd_same; clear eH; replace hk := StrL.same k12 hk; replace hp := StrL.same k12 hp; replace k2 := k2.trans (k12.mono (fun _ z => nomatch z)); clear k12)
      refine ⟨_, _, _, rfl, rfl, SqL.of hk, SqL.of he, ?_⟩
      (repeat (first | (refine ⟨_, rfl, ?_⟩) | (refine ⟨_, _, rfl, rfl, ?_⟩) | (refine ⟨_, _, _, _, rfl, rfl, SqL.of (by assumption), (by rfl), ?_⟩) | (refine ⟨_, _, _, _, rfl, rfl, (by assumption), (by rfl), ?_⟩) | (refine ⟨_, _, _, _, rfl, rfl, SqL.of (by assumption), (by assumption), ?_⟩) | (refine ⟨_, _, rfl, .inl (SqL.of (by assumption)), ?_⟩) | (refine ⟨_, _, _, _, _, rfl, (by assumption), (by assumption), (by assumption), (by rfl), ?_⟩) | (refine ⟨_, _, _, _, rfl, (by assumption), (by assumption), (by assumption), (Nat.le_of_ble_eq_true rfl), ?_⟩) | (refine And.intro (by first | assumption | rfl | (show (0:Int) < _; omega) | (show CDiv _ _; exact ⟨by omega, by omega⟩) | (show CMul _ _; first | exact .inl ⟨by omega, by omega⟩ | exact .inr ⟨by omega, by omega⟩) | (show CPow _ _; exact ⟨by omega, by omega, by omega⟩) | (show (_ : Nat) ≤ sizeLine; exact Nat.le_of_ble_eq_true rfl)) ?_) ))
      refine ite2 (fun g => ?_) (fun g => ?_)
      · have gk : b.key ≠ [] := by intro z; rw [z] at g; simp at g
        (repeat (first | (refine ⟨_, rfl, ?_⟩) | (refine ⟨_, _, rfl, rfl, ?_⟩) | (refine ⟨_, _, _, _, rfl, rfl, SqL.of (by assumption), (by rfl), ?_⟩) | (refine ⟨_, _, _, _, rfl, rfl, (by assumption), (by rfl), ?_⟩) | (refine ⟨_, _, _, _, rfl, rfl, SqL.of (by assumption), (by assumption), ?_⟩) | (refine ⟨_, _, rfl, .inl (SqL.of (by assumption)), ?_⟩) | (refine ⟨_, _, _, _, _, rfl, (by assumption), (by assumption), (by assumption), (by rfl), ?_⟩) | (refine ⟨_, _, _, _, rfl, (by assumption), (by assumption), (by assumption), (Nat.le_of_ble_eq_true rfl), ?_⟩) | (refine And.intro (by first | assumption | rfl | (show (0:Int) < _; omega) | (show CDiv _ _; exact ⟨by omega, by omega⟩) | (show CMul _ _; first | exact .inl ⟨by omega, by omega⟩ | exact .inr ⟨by omega, by omega⟩) | (show CPow _ _; exact ⟨by omega, by omega, by omega⟩) | (show (_ : Nat) ≤ sizeLine; exact Nat.le_of_ble_eq_true rfl)) ?_) ))
        (intro e2 he2; generalize eH : upd H3 e2 _ = H4; have k12 : Kp [] H3 H4 := eH ▸ Kp.new he2; replace he2 := (congrFun eH.symm e2).trans upd_same; clear eH; replace hk := StrL.same k12 hk; replace hp := StrL.same k12 hp; replace k2 := k2.trans (k12.mono (fun _ z => nomatch z)); clear k12)
        refine ⟨_, _, _, _, rfl, rfl, hp, he2, by simp [w1]; exact Nat.le_trans (m := 100) (by omega) (by decide), ?_⟩
        (intro e3 he3; generalize eH : upd H4 e3 _ = H5; have k12 : Kp [] H4 H5 := eH ▸ Kp.new he3; replace he3 := (congrFun eH.symm e3).trans upd_same; clear eH; replace hk := StrL.same k12 hk; replace k2 := k2.trans (k12.mono (fun _ z => nomatch z)); clear k12)
        (repeat (first | (refine ⟨_, rfl, ?_⟩) | (refine ⟨_, _, rfl, rfl, ?_⟩) | (refine ⟨_, _, _, _, rfl, rfl, SqL.of (by assumption), (by rfl), ?_⟩) | (refine ⟨_, _, _, _, rfl, rfl, (by assumption), (by rfl), ?_⟩) | (refine ⟨_, _, _, _, rfl, rfl, SqL.of (by assumption), (by assumption), ?_⟩) | (refine ⟨_, _, rfl, .inl (SqL.of (by assumption)), ?_⟩) | (refine ⟨_, _, _, _, _, rfl, (by assumption), (by assumption), (by assumption), (by rfl), ?_⟩) | (refine ⟨_, _, _, _, rfl, (by assumption), (by assumption), (by assumption), (Nat.le_of_ble_eq_true rfl), ?_⟩) | (refine And.intro (by first | assumption | rfl | (show (0:Int) < _; omega) | (show CDiv _ _; exact ⟨by omega, by omega⟩) | (show CMul _ _; first | exact .inl ⟨by omega, by omega⟩ | exact .inr ⟨by omega, by omega⟩) | (show CPow _ _; exact ⟨by omega, by omega, by omega⟩) | (show (_ : Nat) ≤ sizeLine; exact Nat.le_of_ble_eq_true rfl)) ?_) ))
        refine ⟨_, _, _, _, rfl, rfl, he3, hk, by simp [w1]; exact Nat.le_trans (m := 100) (by omega) (by decide), ?_⟩
        intro q hq
        exact ⟨q, rfl, by rw [StrL, upd_same]; simp [kw, gk], kp.dom q (k2.dom q hq), k2.trans (Kp.new hq)⟩
      · have gk : b.key = [] := by cases h : b.key with | nil => rfl | cons _ _ => rw [h] at g; simp at g
        exact ⟨p, rfl, by rw [kw, if_pos gk, List.append_nil]; exact hp, fp, k2⟩
    · rintro _ H3 ⟨q, rfl, hq, fq, k3⟩
      replace kp := kp.trans k3
      replace hl := hl.same k3
      clear hx hc hk hp k3
      have lq : (w1 b ++ kw b).length ≤ 20 := by
        by_cases z : b.key = [] <;> simp [w1, kw, z] <;> omega
      (repeat (first | (refine ⟨_, rfl, ?_⟩) | (refine ⟨_, _, rfl, rfl, ?_⟩) | (refine ⟨_, _, _, _, rfl, rfl, SqL.of (by assumption), (by rfl), ?_⟩) | (refine ⟨_, _, _, _, rfl, rfl, (by assumption), (by rfl), ?_⟩) | (refine ⟨_, _, _, _, rfl, rfl, SqL.of (by assumption), (by assumption), ?_⟩) | (refine ⟨_, _, rfl, .inl (SqL.of (by assumption)), ?_⟩) | (refine ⟨_, _, _, _, _, rfl, (by assumption), (by assumption), (by assumption), (by rfl), ?_⟩) | (refine ⟨_, _, _, _, rfl, (by assumption), (by assumption), (by assumption), (Nat.le_of_ble_eq_true rfl), ?_⟩) | (refine And.intro (by first | assumption | rfl | (show (0:Int) < _; omega) | (show CDiv _ _; exact ⟨by omega, by omega⟩) | (show CMul _ _; first | exact .inl ⟨by omega, by omega⟩ | exact .inr ⟨by omega, by omega⟩) | (show CPow _ _; exact ⟨by omega, by omega, by omega⟩) | (show (_ : Nat) ≤ sizeLine; exact Nat.le_of_ble_eq_true rfl)) ?_) ))
      refine ⟨.inl ⟨rfl, _, SqL.of hq⟩, ?_⟩
      (repeat (first | (refine ⟨_, rfl, ?_⟩) | (refine ⟨_, _, rfl, rfl, ?_⟩) | (refine ⟨_, _, _, _, rfl, rfl, SqL.of (by assumption), (by rfl), ?_⟩) | (refine ⟨_, _, _, _, rfl, rfl, (by assumption), (by rfl), ?_⟩) | (refine ⟨_, _, _, _, rfl, rfl, SqL.of (by assumption), (by assumption), ?_⟩) | (refine ⟨_, _, rfl, .inl (SqL.of (by assumption)), ?_⟩) | (refine ⟨_, _, _, _, _, rfl, (by assumption), (by assumption), (by assumption), (by rfl), ?_⟩) | (refine ⟨_, _, _, _, rfl, (by assumption), (by assumption), (by assumption), (Nat.le_of_ble_eq_true rfl), ?_⟩) | (refine And.intro (by first | assumption | rfl | (show (0:Int) < _; omega) | (show CDiv _ _; exact ⟨by omega, by omega⟩) | (show CMul _ _; first | exact .inl ⟨by omega, by omega⟩ | exact .inr ⟨by omega, by omega⟩) | (show CPow _ _; exact ⟨by omega, by omega, by omega⟩) | (show (_ : Nat) ≤ sizeLine; exact Nat.le_of_ble_eq_true rfl)) ?_) ))
      have lq' : (w1 b ++ kw b).length < sizeLine := Nat.lt_of_le_of_lt lq (by decide)
      rcases lieHead hl with ⟨a1, wd, rfl, h1, lw, nd⟩ | ⟨a1, a2, r, cs, rfl, el, h1, h2⟩
      · refine ⟨_, _, _, _, rfl, rfl, h1, rfl, ?_⟩
        refine ⟨q, _, _, rfl, rfl, hq, by rw [List.length_map]; exact lq', ?_⟩
        have h1' := SqT.putL (o := .lst ((w1 b ++ kw b).map V.str ++ [V.str wd])) hq h1
        have k4 : Kp [] H (upd H3 q (.lst ((w1 b ++ kw b).map V.str ++ [V.str wd]))) := Kp.putNew' kp fq
        have hq' : StrL (upd H3 q (.lst ((w1 b ++ kw b).map V.str ++ [V.str wd]))) q (rowWords b) := by rw [StrL, upd_same, rowWords, lw]; simp
        generalize upd H3 q (.lst ((w1 b ++ kw b).map V.str ++ [V.str wd])) = H4 at *
        refine ⟨fun σ' H' => σ' = [some (V.ref x), some (V.str b.name), some (V.ref cc), some (V.ref kk), some (V.ref a1), some (V.ref q)] ∧ H' = H4, ?_, ?_⟩
        · (repeat (first | (refine ⟨_, rfl, ?_⟩) | (refine ⟨_, _, rfl, rfl, ?_⟩) | (refine ⟨_, _, _, _, rfl, rfl, SqL.of (by assumption), (by rfl), ?_⟩) | (refine ⟨_, _, _, _, rfl, rfl, (by assumption), (by rfl), ?_⟩) | (refine ⟨_, _, _, _, rfl, rfl, SqL.of (by assumption), (by assumption), ?_⟩) | (refine ⟨_, _, rfl, .inl (SqL.of (by assumption)), ?_⟩) | (refine ⟨_, _, _, _, _, rfl, (by assumption), (by assumption), (by assumption), (by rfl), ?_⟩) | (refine ⟨_, _, _, _, rfl, (by assumption), (by assumption), (by assumption), (Nat.le_of_ble_eq_true rfl), ?_⟩) | (refine And.intro (by first | assumption | rfl | (show (0:Int) < _; omega) | (show CDiv _ _; exact ⟨by omega, by omega⟩) | (show CMul _ _; first | exact .inl ⟨by omega, by omega⟩ | exact .inr ⟨by omega, by omega⟩) | (show CPow _ _; exact ⟨by omega, by omega, by omega⟩) | (show (_ : Nat) ≤ sizeLine; exact Nat.le_of_ble_eq_true rfl)) ?_) ))
          refine ite2 (fun g => absurd ?_ nd) (fun g => ⟨rfl, rfl⟩)
          simpa using g
        · rintro _ H5 ⟨rfl, rfl⟩
          (repeat (first | (refine ⟨_, rfl, ?_⟩) | (refine ⟨_, _, rfl, rfl, ?_⟩) | (refine ⟨_, _, _, _, rfl, rfl, SqL.of (by assumption), (by rfl), ?_⟩) | (refine ⟨_, _, _, _, rfl, rfl, (by assumption), (by rfl), ?_⟩) | (refine ⟨_, _, _, _, rfl, rfl, SqL.of (by assumption), (by assumption), ?_⟩) | (refine ⟨_, _, rfl, .inl (SqL.of (by assumption)), ?_⟩) | (refine ⟨_, _, _, _, _, rfl, (by assumption), (by assumption), (by assumption), (by rfl), ?_⟩) | (refine ⟨_, _, _, _, rfl, (by assumption), (by assumption), (by assumption), (Nat.le_of_ble_eq_true rfl), ?_⟩) | (refine And.intro (by first | assumption | rfl | (show (0:Int) < _; omega) | (show CDiv _ _; exact ⟨by omega, by omega⟩) | (show CMul _ _; first | exact .inl ⟨by omega, by omega⟩ | exact .inr ⟨by omega, by omega⟩) | (show CPow _ _; exact ⟨by omega, by omega, by omega⟩) | (show (_ : Nat) ≤ sizeLine; exact Nat.le_of_ble_eq_true rfl)) ?_) ))
          refine ⟨⟨_, rfl⟩, ?_⟩
          (repeat (first | (refine ⟨_, rfl, ?_⟩) | (refine ⟨_, _, rfl, rfl, ?_⟩) | (refine ⟨_, _, _, _, rfl, rfl, SqL.of (by assumption), (by rfl), ?_⟩) | (refine ⟨_, _, _, _, rfl, rfl, (by assumption), (by rfl), ?_⟩) | (refine ⟨_, _, _, _, rfl, rfl, SqL.of (by assumption), (by assumption), ?_⟩) | (refine ⟨_, _, rfl, .inl (SqL.of (by assumption)), ?_⟩) | (refine ⟨_, _, _, _, _, rfl, (by assumption), (by assumption), (by assumption), (by rfl), ?_⟩) | (refine ⟨_, _, _, _, rfl, (by assumption), (by assumption), (by assumption), (Nat.le_of_ble_eq_true rfl), ?_⟩) | (refine And.intro (by first | assumption | rfl | (show (0:Int) < _; omega) | (show CDiv _ _; exact ⟨by omega, by omega⟩) | (show CMul _ _; first | exact .inl ⟨by omega, by omega⟩ | exact .inr ⟨by omega, by omega⟩) | (show CPow _ _; exact ⟨by omega, by omega, by omega⟩) | (show (_ : Nat) ≤ sizeLine; exact Nat.le_of_ble_eq_true rfl)) ?_) ))
          exact ⟨_, _, _, rfl, rfl, .inl (SqL.of hq'), row_sum ok, k _ k4⟩
      · refine ⟨_, _, _, _, rfl, rfl, h1, rfl, ?_⟩
        refine ⟨q, _, _, rfl, rfl, hq, by rw [List.length_map]; exact lq', ?_⟩
        have h1' := SqT.putL (o := .lst ((w1 b ++ kw b).map V.str ++ [V.str "dealt"])) hq h1
        have h2' := SqT.putL (o := .lst ((w1 b ++ kw b).map V.str ++ [V.str "dealt"])) hq h2
        have k4 : Kp [] H (upd H3 q (.lst ((w1 b ++ kw b).map V.str ++ [V.str "dealt"]))) := Kp.putNew' kp fq
        have hq' : StrL (upd H3 q (.lst ((w1 b ++ kw b).map V.str ++ [V.str "dealt"]))) q (w1 b ++ kw b ++ [("dealt" : Str)]) := by rw [StrL, upd_same]; simp
        generalize upd H3 q (.lst ((w1 b ++ kw b).map V.str ++ [V.str "dealt"])) = H4 at *
        have le3 := ok.lie
        rw [el] at le3
        replace le3 := le3.2.1
        refine ⟨fun σ' H' => ∃ p, σ' = [some (V.ref x), some (V.str b.name), some (V.ref cc), some (V.ref kk), some (V.ref a1), some (V.ref p)] ∧ Kp [] H H' ∧ StrL H' p (rowWords b), ?_, ?_⟩
        · (repeat (first | (refine ⟨_, rfl, ?_⟩) | (refine ⟨_, _, rfl, rfl, ?_⟩) | (refine ⟨_, _, _, _, rfl, rfl, SqL.of (by assumption), (by rfl), ?_⟩) | (refine ⟨_, _, _, _, rfl, rfl, (by assumption), (by rfl), ?_⟩) | (refine ⟨_, _, _, _, rfl, rfl, SqL.of (by assumption), (by assumption), ?_⟩) | (refine ⟨_, _, rfl, .inl (SqL.of (by assumption)), ?_⟩) | (refine ⟨_, _, _, _, _, rfl, (by assumption), (by assumption), (by assumption), (by rfl), ?_⟩) | (refine ⟨_, _, _, _, rfl, (by assumption), (by assumption), (by assumption), (Nat.le_of_ble_eq_true rfl), ?_⟩) | (refine And.intro (by first | assumption | rfl | (show (0:Int) < _; omega) | (show CDiv _ _; exact ⟨by omega, by omega⟩) | (show CMul _ _; first | exact .inl ⟨by omega, by omega⟩ | exact .inr ⟨by omega, by omega⟩) | (show CPow _ _; exact ⟨by omega, by omega, by omega⟩) | (show (_ : Nat) ≤ sizeLine; exact Nat.le_of_ble_eq_true rfl)) ?_) ))
          (intro e4 he4; generalize eH : upd H4 e4 _ = H5; have k12 : Kp [] H4 H5 := eH ▸ Kp.new he4; replace he4 := (congrFun eH.symm e4).trans upd_same; clear eH; replace h1' := SqT.same k12 h1'; replace h2' := SqT.same k12 h2'; replace hq' := StrL.same k12 hq'; replace k4 := k4.trans (k12.mono (fun _ z => nomatch z)); clear k12)
          refine ⟨_, _, _, _, rfl, rfl, hq', he4, by simp at lq ⊢; exact Nat.le_trans (m := 100) (by omega) (by decide), ?_⟩
          (intro e5 he5; generalize eH : upd H5 e5 _ = H6; have k12 : Kp [] H5 H6 := eH ▸ Kp.new he5; replace he5 := (congrFun eH.symm e5).trans upd_same; clear eH; replace h1' := SqT.same k12 h1'; replace h2' := SqT.same k12 h2'; replace k4 := k4.trans (k12.mono (fun _ z => nomatch z)); clear k12)
          (repeat (first | (refine ⟨_, rfl, ?_⟩) | (refine ⟨_, _, rfl, rfl, ?_⟩) | (refine ⟨_, _, _, _, rfl, rfl, SqL.of (by assumption), (by rfl), ?_⟩) | (refine ⟨_, _, _, _, rfl, rfl, (by assumption), (by rfl), ?_⟩) | (refine ⟨_, _, _, _, rfl, rfl, SqL.of (by assumption), (by assumption), ?_⟩) | (refine ⟨_, _, rfl, .inl (SqL.of (by assumption)), ?_⟩) | (refine ⟨_, _, _, _, _, rfl, (by assumption), (by assumption), (by assumption), (by rfl), ?_⟩) | (refine ⟨_, _, _, _, rfl, (by assumption), (by assumption), (by assumption), (Nat.le_of_ble_eq_true rfl), ?_⟩) | (refine And.intro (by first | assumption | rfl | (show (0:Int) < _; omega) | (show CDiv _ _; exact ⟨by omega, by omega⟩) | (show CMul _ _; first | exact .inl ⟨by omega, by omega⟩ | exact .inr ⟨by omega, by omega⟩) | (show CPow _ _; exact ⟨by omega, by omega, by omega⟩) | (show (_ : Nat) ≤ sizeLine; exact Nat.le_of_ble_eq_true rfl)) ?_) ))
          refine ⟨_, _, rfl, .inr h2', ?_⟩
          (intro e6 he6; generalize eH : upd H6 e6 _ = H7; have k12 : Kp [] H6 H7 := eH ▸ Kp.new he6; replace he6 := (congrFun eH.symm e6).trans upd_same; clear eH; replace he5 := k12.same _ _ he5; replace k4 := k4.trans (k12.mono (fun _ z => nomatch z)); clear k12)
          refine ⟨_, _, _, _, rfl, rfl, he5, he6, by simp at lq ⊢; exact Nat.le_trans (m := 100) (by omega) (by decide), ?_⟩
          intro p hp
          exact ⟨p, rfl, k4.trans (Kp.new hp), by rw [StrL, upd_same]; simp [rowWords, el, Lw]⟩
        · rintro _ H5 ⟨p, rfl, k5, h5⟩
          (repeat (first | (refine ⟨_, rfl, ?_⟩) | (refine ⟨_, _, rfl, rfl, ?_⟩) | (refine ⟨_, _, _, _, rfl, rfl, SqL.of (by assumption), (by rfl), ?_⟩) | (refine ⟨_, _, _, _, rfl, rfl, (by assumption), (by rfl), ?_⟩) | (refine ⟨_, _, _, _, rfl, rfl, SqL.of (by assumption), (by assumption), ?_⟩) | (refine ⟨_, _, rfl, .inl (SqL.of (by assumption)), ?_⟩) | (refine ⟨_, _, _, _, _, rfl, (by assumption), (by assumption), (by assumption), (by rfl), ?_⟩) | (refine ⟨_, _, _, _, rfl, (by assumption), (by assumption), (by assumption), (Nat.le_of_ble_eq_true rfl), ?_⟩) | (refine And.intro (by first | assumption | rfl | (show (0:Int) < _; omega) | (show CDiv _ _; exact ⟨by omega, by omega⟩) | (show CMul _ _; first | exact .inl ⟨by omega, by omega⟩ | exact .inr ⟨by omega, by omega⟩) | (show CPow _ _; exact ⟨by omega, by omega, by omega⟩) | (show (_ : Nat) ≤ sizeLine; exact Nat.le_of_ble_eq_true rfl)) ?_) ))
          refine ⟨⟨_, rfl⟩, ?_⟩
          (repeat (first | (refine ⟨_, rfl, ?_⟩) | (refine ⟨_, _, rfl, rfl, ?_⟩) | (refine ⟨_, _, _, _, rfl, rfl, SqL.of (by assumption), (by rfl), ?_⟩) | (refine ⟨_, _, _, _, rfl, rfl, (by assumption), (by rfl), ?_⟩) | (refine ⟨_, _, _, _, rfl, rfl, SqL.of (by assumption), (by assumption), ?_⟩) | (refine ⟨_, _, rfl, .inl (SqL.of (by assumption)), ?_⟩) | (refine ⟨_, _, _, _, _, rfl, (by assumption), (by assumption), (by assumption), (by rfl), ?_⟩) | (refine ⟨_, _, _, _, rfl, (by assumption), (by assumption), (by assumption), (Nat.le_of_ble_eq_true rfl), ?_⟩) | (refine And.intro (by first | assumption | rfl | (show (0:Int) < _; omega) | (show CDiv _ _; exact ⟨by omega, by omega⟩) | (show CMul _ _; first | exact .inl ⟨by omega, by omega⟩ | exact .inr ⟨by omega, by omega⟩) | (show CPow _ _; exact ⟨by omega, by omega, by omega⟩) | (show (_ : Nat) ≤ sizeLine; exact Nat.le_of_ble_eq_true rfl)) ?_) ))
          exact ⟨_, _, _, rfl, rfl, .inl (SqL.of h5), row_sum ok, k _ k5⟩
end
end K14

namespace K14
open PySem L2 GB G1 Tb TL
def spOther (K : PySem.W.Frag) : Sp := fun vs H Q _ => ∃ (p c : Addr) (n : Int) (v : V) (b : Bare), vs = [.ref p, v] ∧ Pen H p c n ∧ n ≤ 99000 ∧ BareAt K H v b ∧ BOk b ∧ GoodCols b.cols ∧ ∀ v' b' H', BareAt K H' v' b' → BOk b' → Kq H H' → Pen H' p c (n + 300) → Q v' H'
/-- the four names at work -/
def Oth (K : PySem.W.Frag) (H0 : Hp) (p c x : Addr) (way n : Int) (b : Bare) (σ : L2.St) (H : Hp) : Prop := ∃ (cc kk : Addr) (l : V), σ = [some (V.ref p), some (V.ref x), some (V.str b.name), some (V.ref cc), some (V.ref kk), some l, some (V.int way)] ∧ StrL H cc b.cols ∧ StrL H kk b.key ∧ LieAt K H l b.lie ∧ BOk b ∧ Kq H0 H ∧ Pen H p c n
theorem name_emp (x : Str) : x ++ ("" : Str) = x := by
  refine ext_tl ?_
  rw [tl_append]
  have : tl ("" : Str) = [] := by decide +kernel
  rw [this, List.append_nil]
theorem BOk.setName {b : Bare} (h : BOk b) {nm : Str} (a : nameB nm = true ∧ PyData.strOk nm = true) : BOk { b with name := nm } := ⟨a.1, h.cl, h.cu, h.cn, h.kl, h.ku, h.ks, h.lie, ⟨a.2, h.sok.cols, h.sok.key, h.sok.lie⟩⟩
theorem BOk.setKey {b : Bare} (h : BOk b) {ks : List Str} (a : ks.length ≤ 8) (u : ks.Nodup) (s : ∀ x ∈ ks, x ∈ b.cols) : BOk { b with key := ks } := ⟨h.name, h.cl, h.cu, h.cn, a, u, s, h.lie, ⟨h.sok.name, h.sok.cols, fun x hx => h.sok.cols x (s x hx), h.sok.lie⟩⟩
theorem BOk.setLie {b : Bare} (h : BOk b) {l : Lie} (a : LieOk b.cols l) (s : l.sok) : BOk { b with lie := l } := ⟨h.name, h.cl, h.cu, h.cn, h.kl, h.ku, h.ks, a, ⟨h.sok.name, h.sok.cols, h.sok.key, s⟩⟩
theorem LieOk.mono {cs ds : List Str} {l : Lie} (h : LieOk cs l) (s : ∀ x ∈ cs, x ∈ ds) : LieOk ds l := by
  cases l with
  | dealt r ys => exact ⟨h.1, h.2.1, h.2.2.1, fun x hx => s x (h.2.2.2 x hx)⟩
  | _ => trivial
theorem BOk.setCols {b : Bare} (h : BOk b) {cs : List Str} (l : 1 ≤ cs.length ∧ cs.length ≤ 8) (u : cs.Nodup) (n : ∀ x ∈ cs, nameB x = true ∧ PyData.strOk x = true) (s : ∀ x ∈ b.cols, x ∈ cs) : BOk { b with cols := cs } :=
  ⟨h.name, l, u, fun x hx => (n x hx).1, h.kl, h.ku, fun x hx => s x (h.ks x hx), h.lie.mono s, ⟨h.sok.name, fun x hx => (n x hx).2, h.sok.key, h.sok.lie⟩⟩
theorem freshB : nameB "fresh" = true ∧ PyData.strOk "fresh" = true := by decide +kernel
theorem otherB : ∀ x ∈ (["other", "a"] : List Str), nameB x = true ∧ PyData.strOk x = true := by decide +kernel
section
variable {P : Program} {w : World} {K : PySem.W.Frag} {mg : Str → Option Value} {base : Heap} {aW aP C dk dl : Addr}
theorem cOther (D : Dfn K mg "_law_other" s_law_other) (T : Txt K mg aW aP C) (cDraw : Cal P w K mg base 1 "_law_draw" spDraw) (cPick : Cal P w K mg base 2 "_law_pick" (spPick K)) (cSome : Cal P w K mg base 2 "_law_some" spSome) (cLie : Cal P w K mg base 3 "_law_lie" (spLie K)) : Cal P w K mg base 4 "_law_other" (spOther K) := by
  refine cal D sc_law_other (fun _ _ _ _ _ _ us hl => match us, hl with | [_, _], _ => rfl) (fun vs H Q E h => ?_) (fun f cdv A outer s H vs Q E hr h => ?_)
  · obtain ⟨p, c, n, v, b, rfl, _⟩ := h; rfl
  · obtain ⟨p, c, n, v, b, rfl, pen, hn, hb, ok, gc, k⟩ := h
    refine ⟨_, (pss_cons (ps_asg (pv 1) (pg_unl rfl (pgs_cons (pg_name (i := 2) sc_law_other.nd rfl (Or.inl rfl)) (pgs_cons (pg_name (i := 3) sc_law_other.nd rfl (Or.inl rfl)) (pgs_cons (pg_name (i := 4) sc_law_other.nd rfl (Or.inl rfl)) (pgs_cons (pg_name (i := 5) sc_law_other.nd rfl (Or.inl rfl)) pgs_nil))))))
      (pss_cons (ps_set (i := 6) sc_law_other.nd rfl (Or.inl rfl) (pe_c cDraw hr (by decide) (by rfl) (pa_cons (pv 0) (pa_cons pe_int pa_nil))))
      (pss_cut (ps_if (pt_cmpR op_eq (pv 6) pe_int (nomark _)) (pss_one (ps_set (i := 2) sc_law_other.nd rfl (Or.inl rfl) (pe_c cPick hr (by decide) (by rfl) (pa_cons (pv 0) (pa_cons (pe_lst (pa_cons pe_str (pa_cons (pe_op op_add_str (pv 2) pe_str) (pa_cons pe_str pa_nil)))) pa_nil))))) pss_nil)
      (pss_cut (ps_if (PW.pt (pw_and (pt_cmpR op_eq (pv 6) pe_int (nomark _)) (pw_and1 (pt_cmpR op_lt (pe_callB call_len_seq (by rfl) T.n_len (by decide +kernel) (pa_cons (pv 3) pa_nil)) pe_int (nomark _))))) (pss_one (ps_set (i := 3) sc_law_other.nd rfl (Or.inl rfl) (pe_op op_cat (pv 3) (pe_lst (pa_cons pe_str pa_nil))))) pss_nil)
      (pss_cut (ps_if (pt_cmpR op_eq (pv 6) pe_int (nomark _)) (pss_one (ps_set (i := 3) sc_law_other.nd rfl (Or.inl rfl) (pe_revL (pv 3)))) pss_nil)
      (pss_cut (ps_if (pt_cmpR op_eq (pv 6) pe_int (nomark _)) (pss_one (ps_set (i := 4) sc_law_other.nd rfl (Or.inl rfl) (pe_c cPick hr (by decide) (by rfl) (pa_cons (pv 0) (pa_cons (pe_lst (pa_cons (pe_revL (pv 4)) (pa_cons (pe_lst pa_nil) (pa_cons (pe_c cSome hr (by decide) (by rfl) (pa_cons (pv 0) (pa_cons (pv 3) (pa_cons pe_int (pa_cons pe_int pa_nil))))) pa_nil)))) pa_nil))))) pss_nil)
      (pss_cut (ps_if (pt_cmpR op_eq (pv 6) pe_int (nomark _)) (pss_one (ps_set (i := 5) sc_law_other.nd rfl (Or.inl rfl) (pe_c cLie hr (by decide) (by rfl) (pa_cons (pv 0) (pa_cons (pv 3) pa_nil))))) pss_nil)
      (pss_one (ps_ret (pe_lst (pa_cons (pv 2) (pa_cons (pv 3) (pa_cons (pv 4) (pa_cons (pv 5) pa_nil)))))))))))))), ?_⟩
    show (_ : TS) _ [some (V.ref p), some v, none, none, none, none, none] H
    obtain ⟨x, cc, kk, l, rfl, hx, hc, hk, hl⟩ := hb
    (repeat (first | (refine ⟨_, rfl, ?_⟩) | (refine ⟨_, _, rfl, rfl, ?_⟩) | (refine ⟨_, _, _, _, rfl, rfl, SqL.of (by assumption), (by rfl), ?_⟩) | (refine ⟨_, _, _, _, rfl, rfl, (by assumption), (by rfl), ?_⟩) | (refine ⟨_, _, _, _, rfl, rfl, SqL.of (by assumption), (by assumption), ?_⟩) | (refine ⟨_, _, rfl, .inl (SqL.of (by assumption)), ?_⟩) | (refine ⟨_, _, _, _, _, rfl, (by assumption), (by assumption), (by assumption), (by rfl), ?_⟩) | (refine ⟨_, _, _, _, rfl, (by assumption), (by assumption), (by assumption), (Nat.le_of_ble_eq_true rfl), ?_⟩) | (refine And.intro (by first | assumption | rfl | (show (0:Int) < _; omega) | (show CDiv _ _; exact ⟨by omega, by omega⟩) | (show CMul _ _; first | exact .inl ⟨by omega, by omega⟩ | exact .inr ⟨by omega, by omega⟩) | (show CPow _ _; exact ⟨by omega, by omega, by omega⟩) | (show (_ : Nat) ≤ sizeLine; exact Nat.le_of_ble_eq_true rfl)) ?_) ))
    refine ⟨_, _, rfl, SqL.of hx, rfl, ?_⟩
    refine ⟨_, _, rfl, _, _, rfl, _, _, rfl, _, _, rfl, rfl, ?_⟩
    (repeat (first | (refine ⟨_, rfl, ?_⟩) | (refine ⟨_, _, rfl, rfl, ?_⟩) | (refine ⟨_, _, _, _, rfl, rfl, SqL.of (by assumption), (by rfl), ?_⟩) | (refine ⟨_, _, _, _, rfl, rfl, (by assumption), (by rfl), ?_⟩) | (refine ⟨_, _, _, _, rfl, rfl, SqL.of (by assumption), (by assumption), ?_⟩) | (refine ⟨_, _, rfl, .inl (SqL.of (by assumption)), ?_⟩) | (refine ⟨_, _, _, _, _, rfl, (by assumption), (by assumption), (by assumption), (by rfl), ?_⟩) | (refine ⟨_, _, _, _, rfl, (by assumption), (by assumption), (by assumption), (Nat.le_of_ble_eq_true rfl), ?_⟩) | (refine And.intro (by first | assumption | rfl | (show (0:Int) < _; omega) | (show CDiv _ _; exact ⟨by omega, by omega⟩) | (show CMul _ _; first | exact .inl ⟨by omega, by omega⟩ | exact .inr ⟨by omega, by omega⟩) | (show CPow _ _; exact ⟨by omega, by omega, by omega⟩) | (show (_ : Nat) ≤ sizeLine; exact Nat.le_of_ble_eq_true rfl)) ?_) ))
    refine ⟨p, c, _, n, rfl, pen, by decide, by decide, by omega, fun way H1 d0 d1 k1 pen1 => ?_⟩
    replace hc := hc.kq k1
    replace hk := hk.kq k1
    replace hl := hl.kq k1
    clear hx pen
    refine ⟨fun σ' H' => ∃ b', Oth K H p c x way (n + 2) b' σ' H' ∧ b'.cols = b.cols, ?_, ?_⟩
    · (repeat (first | (refine ⟨_, rfl, ?_⟩) | (refine ⟨_, _, rfl, rfl, ?_⟩) | (refine ⟨_, _, _, _, rfl, rfl, SqL.of (by assumption), (by rfl), ?_⟩) | (refine ⟨_, _, _, _, rfl, rfl, (by assumption), (by rfl), ?_⟩) | (refine ⟨_, _, _, _, rfl, rfl, SqL.of (by assumption), (by assumption), ?_⟩) | (refine ⟨_, _, rfl, .inl (SqL.of (by assumption)), ?_⟩) | (refine ⟨_, _, _, _, _, rfl, (by assumption), (by assumption), (by assumption), (by rfl), ?_⟩) | (refine ⟨_, _, _, _, rfl, (by assumption), (by assumption), (by assumption), (Nat.le_of_ble_eq_true rfl), ?_⟩) | (refine And.intro (by first | assumption | rfl | (show (0:Int) < _; omega) | (show CDiv _ _; exact ⟨by omega, by omega⟩) | (show CMul _ _; first | exact .inl ⟨by omega, by omega⟩ | exact .inr ⟨by omega, by omega⟩) | (show CPow _ _; exact ⟨by omega, by omega, by omega⟩) | (show (_ : Nat) ≤ sizeLine; exact Nat.le_of_ble_eq_true rfl)) ?_) ))
      refine ite2 (fun g => ?_) (fun g => ⟨b, ⟨cc, kk, l, rfl, hc, hk, hl, ok, k1, pen1.le (by omega)⟩, rfl⟩)
      (repeat (first | (refine ⟨_, rfl, ?_⟩) | (refine ⟨_, _, rfl, rfl, ?_⟩) | (refine ⟨_, _, _, _, rfl, rfl, SqL.of (by assumption), (by rfl), ?_⟩) | (refine ⟨_, _, _, _, rfl, rfl, (by assumption), (by rfl), ?_⟩) | (refine ⟨_, _, _, _, rfl, rfl, SqL.of (by assumption), (by assumption), ?_⟩) | (refine ⟨_, _, rfl, .inl (SqL.of (by assumption)), ?_⟩) | (refine ⟨_, _, _, _, _, rfl, (by assumption), (by assumption), (by assumption), (by rfl), ?_⟩) | (refine ⟨_, _, _, _, rfl, (by assumption), (by assumption), (by assumption), (Nat.le_of_ble_eq_true rfl), ?_⟩) | (refine And.intro (by first | assumption | rfl | (show (0:Int) < _; omega) | (show CDiv _ _; exact ⟨by omega, by omega⟩) | (show CMul _ _; first | exact .inl ⟨by omega, by omega⟩ | exact .inr ⟨by omega, by omega⟩) | (show CPow _ _; exact ⟨by omega, by omega, by omega⟩) | (show (_ : Nat) ≤ sizeLine; exact Nat.le_of_ble_eq_true rfl)) ?_) ))
      have ln := (name_len ok.name).2
      refine ⟨by have : Str.length ("" : Str) = 0 := (by decide +kernel); rw [this]; exact Nat.le_trans (m := 100) (by omega) (by decide), ?_⟩
      (repeat (first | (refine ⟨_, rfl, ?_⟩) | (refine ⟨_, _, rfl, rfl, ?_⟩) | (refine ⟨_, _, _, _, rfl, rfl, SqL.of (by assumption), (by rfl), ?_⟩) | (refine ⟨_, _, _, _, rfl, rfl, (by assumption), (by rfl), ?_⟩) | (refine ⟨_, _, _, _, rfl, rfl, SqL.of (by assumption), (by assumption), ?_⟩) | (refine ⟨_, _, rfl, .inl (SqL.of (by assumption)), ?_⟩) | (refine ⟨_, _, _, _, _, rfl, (by assumption), (by assumption), (by assumption), (by rfl), ?_⟩) | (refine ⟨_, _, _, _, rfl, (by assumption), (by assumption), (by assumption), (Nat.le_of_ble_eq_true rfl), ?_⟩) | (refine And.intro (by first | assumption | rfl | (show (0:Int) < _; omega) | (show CDiv _ _; exact ⟨by omega, by omega⟩) | (show CMul _ _; first | exact .inl ⟨by omega, by omega⟩ | exact .inr ⟨by omega, by omega⟩) | (show CPow _ _; exact ⟨by omega, by omega, by omega⟩) | (show (_ : Nat) ≤ sizeLine; exact Nat.le_of_ble_eq_true rfl)) ?_) ))
      (intro e he; generalize eH : upd H1 e _ = H2; have k12 : Kp [] H1 H2 := eH ▸ Kp.new he; replace he := (congrFun eH.symm e).trans upd_same; clear eH; replace pen1 := Pen.same k12 pen1; replace hc := StrL.same k12 hc; replace hk := StrL.same k12 hk; replace hl := LieAt.same k12 hl; replace k1 := k1.trans k12.q; clear k12)
      refine ⟨p, c, e, _, _, rfl, pen1, by omega, he, rfl, by simp, by simp, fun v H3 hv k3 pen3 => ?_⟩
      obtain ⟨nm, rfl, on⟩ : ∃ nm, v = .str nm ∧ (nameB nm = true ∧ PyData.strOk nm = true) := by
        simp only [List.mem_cons, List.not_mem_nil, or_false] at hv
        rcases hv with rfl | rfl | rfl
        · exact ⟨_, rfl, otherB _ (by decide +kernel)⟩
        · exact ⟨_, rfl, by rw [name_emp]; exact ⟨ok.name, ok.sok.name⟩⟩
        · exact ⟨_, rfl, otherB _ (by decide +kernel)⟩
      exact ⟨{ b with name := nm }, ⟨cc, kk, l, rfl, hc.kq k3, hk.kq k3, hl.kq k3, ok.setName on, k1.trans k3, pen3.le (by omega)⟩, rfl⟩
    · rintro σ1 H2 ⟨b1, ⟨c1, y1, l1, rfl, hc1, hk1, hl1, ok1, kq1, pn1⟩, eb⟩
      clear hc hk hl pen1 k1 H1 cc kk l
      refine ⟨fun σ' H' => ∃ b', Oth K H p c x way (n + 2) b' σ' H', ?_, ?_⟩
      · (repeat (first | (refine ⟨_, rfl, ?_⟩) | (refine ⟨_, _, rfl, rfl, ?_⟩) | (refine ⟨_, _, _, _, rfl, rfl, SqL.of (by assumption), (by rfl), ?_⟩) | (refine ⟨_, _, _, _, rfl, rfl, (by assumption), (by rfl), ?_⟩) | (refine ⟨_, _, _, _, rfl, rfl, SqL.of (by assumption), (by assumption), ?_⟩) | (refine ⟨_, _, rfl, .inl (SqL.of (by assumption)), ?_⟩) | (refine ⟨_, _, _, _, _, rfl, (by assumption), (by assumption), (by assumption), (by rfl), ?_⟩) | (refine ⟨_, _, _, _, rfl, (by assumption), (by assumption), (by assumption), (Nat.le_of_ble_eq_true rfl), ?_⟩) | (refine And.intro (by first | assumption | rfl | (show (0:Int) < _; omega) | (show CDiv _ _; exact ⟨by omega, by omega⟩) | (show CMul _ _; first | exact .inl ⟨by omega, by omega⟩ | exact .inr ⟨by omega, by omega⟩) | (show CPow _ _; exact ⟨by omega, by omega, by omega⟩) | (show (_ : Nat) ≤ sizeLine; exact Nat.le_of_ble_eq_true rfl)) ?_) ))
        refine ite2 (fun g => ?_) (fun g => iteF ⟨b1, c1, y1, l1, rfl, hc1, hk1, hl1, ok1, kq1, pn1⟩)
        (repeat (first | (refine ⟨_, rfl, ?_⟩) | (refine ⟨_, _, rfl, rfl, ?_⟩) | (refine ⟨_, _, _, _, rfl, rfl, SqL.of (by assumption), (by rfl), ?_⟩) | (refine ⟨_, _, _, _, rfl, rfl, (by assumption), (by rfl), ?_⟩) | (refine ⟨_, _, _, _, rfl, rfl, SqL.of (by assumption), (by assumption), ?_⟩) | (refine ⟨_, _, rfl, .inl (SqL.of (by assumption)), ?_⟩) | (refine ⟨_, _, _, _, _, rfl, (by assumption), (by assumption), (by assumption), (by rfl), ?_⟩) | (refine ⟨_, _, _, _, rfl, (by assumption), (by assumption), (by assumption), (Nat.le_of_ble_eq_true rfl), ?_⟩) | (refine And.intro (by first | assumption | rfl | (show (0:Int) < _; omega) | (show CDiv _ _; exact ⟨by omega, by omega⟩) | (show CMul _ _; first | exact .inl ⟨by omega, by omega⟩ | exact .inr ⟨by omega, by omega⟩) | (show CPow _ _; exact ⟨by omega, by omega, by omega⟩) | (show (_ : Nat) ≤ sizeLine; exact Nat.le_of_ble_eq_true rfl)) ?_) ))
        refine ite2 (fun g2 => ?_) (fun g2 => ⟨b1, c1, y1, l1, rfl, hc1, hk1, hl1, ok1, kq1, pn1⟩)
        have l7 : b1.cols.length < 8 := by have := of_decide_eq_true g2; rw [List.length_map] at this; omega
        (repeat (first | (refine ⟨_, rfl, ?_⟩) | (refine ⟨_, _, rfl, rfl, ?_⟩) | (refine ⟨_, _, _, _, rfl, rfl, SqL.of (by assumption), (by rfl), ?_⟩) | (refine ⟨_, _, _, _, rfl, rfl, (by assumption), (by rfl), ?_⟩) | (refine ⟨_, _, _, _, rfl, rfl, SqL.of (by assumption), (by assumption), ?_⟩) | (refine ⟨_, _, rfl, .inl (SqL.of (by assumption)), ?_⟩) | (refine ⟨_, _, _, _, _, rfl, (by assumption), (by assumption), (by assumption), (by rfl), ?_⟩) | (refine ⟨_, _, _, _, rfl, (by assumption), (by assumption), (by assumption), (Nat.le_of_ble_eq_true rfl), ?_⟩) | (refine And.intro (by first | assumption | rfl | (show (0:Int) < _; omega) | (show CDiv _ _; exact ⟨by omega, by omega⟩) | (show CMul _ _; first | exact .inl ⟨by omega, by omega⟩ | exact .inr ⟨by omega, by omega⟩) | (show CPow _ _; exact ⟨by omega, by omega, by omega⟩) | (show (_ : Nat) ≤ sizeLine; exact Nat.le_of_ble_eq_true rfl)) ?_) ))
        (intro e he; generalize eH : upd H2 e _ = H3; have k12 : Kp [] H2 H3 := eH ▸ Kp.new he; replace he := (congrFun eH.symm e).trans upd_same; clear eH; replace pn1 := Pen.same k12 pn1; replace hc1 := StrL.same k12 hc1; replace hk1 := StrL.same k12 hk1; replace hl1 := LieAt.same k12 hl1; replace kq1 := kq1.trans k12.q; clear k12)
        refine ⟨_, _, _, _, rfl, rfl, hc1, he, by simp; exact Nat.le_trans (m := 100) (by omega) (by decide), ?_⟩
        (intro z hz; generalize eH : upd H3 z _ = H4; have k12 : Kp [] H3 H4 := eH ▸ Kp.new hz; replace hz := (congrFun eH.symm z).trans upd_same; clear eH; replace pn1 := Pen.same k12 pn1; replace hk1 := StrL.same k12 hk1; replace hl1 := LieAt.same k12 hl1; replace kq1 := kq1.trans k12.q; clear k12)
        refine ⟨{ b1 with cols := b1.cols ++ [("fresh" : Str)] }, z, y1, l1, rfl, by rw [StrL, hz]; simp, hk1, hl1, ok1.setCols ?_ ?_ ?_ (fun x hx => List.mem_append_left _ hx), kq1, pn1⟩
        · simp; omega
        · rw [List.nodup_append]
          refine ⟨ok1.cu, by simp, ?_⟩
          intro a ha b' hb' e
          rw [List.mem_singleton.mp hb'] at e
          rw [eb] at ha
          exact (gc.1.2 a ha).2.2 e
        · intro x hx
          rcases List.mem_append.mp hx with hx | hx
          · exact ok1.cols.2.1 x hx
          · rw [List.mem_singleton.mp hx]; exact freshB
      · rintro σ2 H3 ⟨b2, c2, y2, l2, rfl, hc2, hk2, hl2, ok2, kq2, pn2⟩
        clear hc1 hk1 hl1 pn1 kq1 ok1 eb b1 c1 y1 l1 H2
        refine ⟨fun σ' H' => ∃ b', Oth K H p c x way (n + 2) b' σ' H', ?_, ?_⟩
        · (repeat (first | (refine ⟨_, rfl, ?_⟩) | (refine ⟨_, _, rfl, rfl, ?_⟩) | (refine ⟨_, _, _, _, rfl, rfl, SqL.of (by assumption), (by rfl), ?_⟩) | (refine ⟨_, _, _, _, rfl, rfl, (by assumption), (by rfl), ?_⟩) | (refine ⟨_, _, _, _, rfl, rfl, SqL.of (by assumption), (by assumption), ?_⟩) | (refine ⟨_, _, rfl, .inl (SqL.of (by assumption)), ?_⟩) | (refine ⟨_, _, _, _, _, rfl, (by assumption), (by assumption), (by assumption), (by rfl), ?_⟩) | (refine ⟨_, _, _, _, rfl, (by assumption), (by assumption), (by assumption), (Nat.le_of_ble_eq_true rfl), ?_⟩) | (refine And.intro (by first | assumption | rfl | (show (0:Int) < _; omega) | (show CDiv _ _; exact ⟨by omega, by omega⟩) | (show CMul _ _; first | exact .inl ⟨by omega, by omega⟩ | exact .inr ⟨by omega, by omega⟩) | (show CPow _ _; exact ⟨by omega, by omega, by omega⟩) | (show (_ : Nat) ≤ sizeLine; exact Nat.le_of_ble_eq_true rfl)) ?_) ))
          refine ite2 (fun g => ?_) (fun g => ⟨b2, c2, y2, l2, rfl, hc2, hk2, hl2, ok2, kq2, pn2⟩)
          (repeat (first | (refine ⟨_, rfl, ?_⟩) | (refine ⟨_, _, rfl, rfl, ?_⟩) | (refine ⟨_, _, _, _, rfl, rfl, SqL.of (by assumption), (by rfl), ?_⟩) | (refine ⟨_, _, _, _, rfl, rfl, (by assumption), (by rfl), ?_⟩) | (refine ⟨_, _, _, _, rfl, rfl, SqL.of (by assumption), (by assumption), ?_⟩) | (refine ⟨_, _, rfl, .inl (SqL.of (by assumption)), ?_⟩) | (refine ⟨_, _, _, _, _, rfl, (by assumption), (by assumption), (by assumption), (by rfl), ?_⟩) | (refine ⟨_, _, _, _, rfl, (by assumption), (by assumption), (by assumption), (Nat.le_of_ble_eq_true rfl), ?_⟩) | (refine And.intro (by first | assumption | rfl | (show (0:Int) < _; omega) | (show CDiv _ _; exact ⟨by omega, by omega⟩) | (show CMul _ _; first | exact .inl ⟨by omega, by omega⟩ | exact .inr ⟨by omega, by omega⟩) | (show CPow _ _; exact ⟨by omega, by omega, by omega⟩) | (show (_ : Nat) ≤ sizeLine; exact Nat.le_of_ble_eq_true rfl)) ?_) ))
          refine ⟨_, _, rfl, SqL.of hc2, ?_⟩
          (intro z hz; generalize eH : upd H3 z _ = H4; have k12 : Kp [] H3 H4 := eH ▸ Kp.new hz; replace hz := (congrFun eH.symm z).trans upd_same; clear eH; replace pn2 := Pen.same k12 pn2; replace hk2 := StrL.same k12 hk2; replace hl2 := LieAt.same k12 hl2; replace kq2 := kq2.trans k12.q; clear k12)
          refine ⟨{ b2 with cols := b2.cols.reverse }, z, y2, l2, rfl, by rw [StrL, hz, List.map_reverse], hk2, hl2, ok2.setCols (by simpa using ok2.cl) ((List.reverse_perm _).nodup_iff.mpr ok2.cu) (fun x hx => ok2.cols.2.1 x (List.mem_reverse.mp hx)) (fun x hx => List.mem_reverse.mpr hx), kq2, pn2⟩
        · rintro σ3 H4 ⟨b3, c3, y3, l3, rfl, hc3, hk3, hl3, ok3, kq3, pn3⟩
          clear hc2 hk2 hl2 pn2 kq2 ok2 b2 c2 y2 l2 H3
          refine ⟨fun σ' H' => ∃ b', Oth K H p c x way (n + 100) b' σ' H', ?_, ?_⟩
          · (repeat (first | (refine ⟨_, rfl, ?_⟩) | (refine ⟨_, _, rfl, rfl, ?_⟩) | (refine ⟨_, _, _, _, rfl, rfl, SqL.of (by assumption), (by rfl), ?_⟩) | (refine ⟨_, _, _, _, rfl, rfl, (by assumption), (by rfl), ?_⟩) | (refine ⟨_, _, _, _, rfl, rfl, SqL.of (by assumption), (by assumption), ?_⟩) | (refine ⟨_, _, rfl, .inl (SqL.of (by assumption)), ?_⟩) | (refine ⟨_, _, _, _, _, rfl, (by assumption), (by assumption), (by assumption), (by rfl), ?_⟩) | (refine ⟨_, _, _, _, rfl, (by assumption), (by assumption), (by assumption), (Nat.le_of_ble_eq_true rfl), ?_⟩) | (refine And.intro (by first | assumption | rfl | (show (0:Int) < _; omega) | (show CDiv _ _; exact ⟨by omega, by omega⟩) | (show CMul _ _; first | exact .inl ⟨by omega, by omega⟩ | exact .inr ⟨by omega, by omega⟩) | (show CPow _ _; exact ⟨by omega, by omega, by omega⟩) | (show (_ : Nat) ≤ sizeLine; exact Nat.le_of_ble_eq_true rfl)) ?_) ))
            refine ite2 (fun g => ?_) (fun g => ⟨b3, c3, y3, l3, rfl, hc3, hk3, hl3, ok3, kq3, pn3.le (by omega)⟩)
            (repeat (first | (refine ⟨_, rfl, ?_⟩) | (refine ⟨_, _, rfl, rfl, ?_⟩) | (refine ⟨_, _, _, _, rfl, rfl, SqL.of (by assumption), (by rfl), ?_⟩) | (refine ⟨_, _, _, _, rfl, rfl, (by assumption), (by rfl), ?_⟩) | (refine ⟨_, _, _, _, rfl, rfl, SqL.of (by assumption), (by assumption), ?_⟩) | (refine ⟨_, _, rfl, .inl (SqL.of (by assumption)), ?_⟩) | (refine ⟨_, _, _, _, _, rfl, (by assumption), (by assumption), (by assumption), (by rfl), ?_⟩) | (refine ⟨_, _, _, _, rfl, (by assumption), (by assumption), (by assumption), (Nat.le_of_ble_eq_true rfl), ?_⟩) | (refine And.intro (by first | assumption | rfl | (show (0:Int) < _; omega) | (show CDiv _ _; exact ⟨by omega, by omega⟩) | (show CMul _ _; first | exact .inl ⟨by omega, by omega⟩ | exact .inr ⟨by omega, by omega⟩) | (show CPow _ _; exact ⟨by omega, by omega, by omega⟩) | (show (_ : Nat) ≤ sizeLine; exact Nat.le_of_ble_eq_true rfl)) ?_) ))
            refine ⟨_, _, rfl, SqL.of hk3, ?_⟩
            (intro z hz; generalize eH : upd H4 z _ = H5; have k12 : Kp [] H4 H5 := eH ▸ Kp.new hz; replace hz := (congrFun eH.symm z).trans upd_same; clear eH; replace pn3 := Pen.same k12 pn3; replace hc3 := StrL.same k12 hc3; replace hk3 := StrL.same k12 hk3; replace hl3 := LieAt.same k12 hl3; replace kq3 := kq3.trans k12.q; clear k12)
            (repeat (first | (refine ⟨_, rfl, ?_⟩) | (refine ⟨_, _, rfl, rfl, ?_⟩) | (refine ⟨_, _, _, _, rfl, rfl, SqL.of (by assumption), (by rfl), ?_⟩) | (refine ⟨_, _, _, _, rfl, rfl, (by assumption), (by rfl), ?_⟩) | (refine ⟨_, _, _, _, rfl, rfl, SqL.of (by assumption), (by assumption), ?_⟩) | (refine ⟨_, _, rfl, .inl (SqL.of (by assumption)), ?_⟩) | (refine ⟨_, _, _, _, _, rfl, (by assumption), (by assumption), (by assumption), (by rfl), ?_⟩) | (refine ⟨_, _, _, _, rfl, (by assumption), (by assumption), (by assumption), (Nat.le_of_ble_eq_true rfl), ?_⟩) | (refine And.intro (by first | assumption | rfl | (show (0:Int) < _; omega) | (show CDiv _ _; exact ⟨by omega, by omega⟩) | (show CMul _ _; first | exact .inl ⟨by omega, by omega⟩ | exact .inr ⟨by omega, by omega⟩) | (show CPow _ _; exact ⟨by omega, by omega, by omega⟩) | (show (_ : Nat) ≤ sizeLine; exact Nat.le_of_ble_eq_true rfl)) ?_) ))
            (intro e he; generalize eH : upd H5 e _ = H6; have k12 : Kp [] H5 H6 := eH ▸ Kp.new he; replace he := (congrFun eH.symm e).trans upd_same; clear eH; replace pn3 := Pen.same k12 pn3; replace hc3 := StrL.same k12 hc3; replace hk3 := StrL.same k12 hk3; replace hl3 := LieAt.same k12 hl3; replace hz := k12.same _ _ hz; replace kq3 := kq3.trans k12.q; clear k12)
            replace hz : StrL H6 z b3.key.reverse := by rw [StrL, hz, List.map_reverse]
            (repeat (first | (refine ⟨_, rfl, ?_⟩) | (refine ⟨_, _, rfl, rfl, ?_⟩) | (refine ⟨_, _, _, _, rfl, rfl, SqL.of (by assumption), (by rfl), ?_⟩) | (refine ⟨_, _, _, _, rfl, rfl, (by assumption), (by rfl), ?_⟩) | (refine ⟨_, _, _, _, rfl, rfl, SqL.of (by assumption), (by assumption), ?_⟩) | (refine ⟨_, _, rfl, .inl (SqL.of (by assumption)), ?_⟩) | (refine ⟨_, _, _, _, _, rfl, (by assumption), (by assumption), (by assumption), (by rfl), ?_⟩) | (refine ⟨_, _, _, _, rfl, (by assumption), (by assumption), (by assumption), (Nat.le_of_ble_eq_true rfl), ?_⟩) | (refine And.intro (by first | assumption | rfl | (show (0:Int) < _; omega) | (show CDiv _ _; exact ⟨by omega, by omega⟩) | (show CMul _ _; first | exact .inl ⟨by omega, by omega⟩ | exact .inr ⟨by omega, by omega⟩) | (show CPow _ _; exact ⟨by omega, by omega, by omega⟩) | (show (_ : Nat) ≤ sizeLine; exact Nat.le_of_ble_eq_true rfl)) ?_) ))
            have l8 := ok3.cl
            refine ⟨p, c, c3, _, _, _, b3.cols, rfl, pn3, by omega, hc3, by omega, by omega, by omega, by omega, by omega, fun r ys H7 h7 nd7 sub7 lo7 hi7 le7 k7 pn7 => ?_⟩
            replace hz := hz.kq k7
            replace he := k7.keep _ _ rfl he
            replace hc3 := hc3.kq k7
            replace hk3 := hk3.kq k7
            replace hl3 := hl3.kq k7
            replace kq3 := kq3.trans k7
            clear k7 pn3
            (repeat (first | (refine ⟨_, rfl, ?_⟩) | (refine ⟨_, _, rfl, rfl, ?_⟩) | (refine ⟨_, _, _, _, rfl, rfl, SqL.of (by assumption), (by rfl), ?_⟩) | (refine ⟨_, _, _, _, rfl, rfl, (by assumption), (by rfl), ?_⟩) | (refine ⟨_, _, _, _, rfl, rfl, SqL.of (by assumption), (by assumption), ?_⟩) | (refine ⟨_, _, rfl, .inl (SqL.of (by assumption)), ?_⟩) | (refine ⟨_, _, _, _, _, rfl, (by assumption), (by assumption), (by assumption), (by rfl), ?_⟩) | (refine ⟨_, _, _, _, rfl, (by assumption), (by assumption), (by assumption), (Nat.le_of_ble_eq_true rfl), ?_⟩) | (refine And.intro (by first | assumption | rfl | (show (0:Int) < _; omega) | (show CDiv _ _; exact ⟨by omega, by omega⟩) | (show CMul _ _; first | exact .inl ⟨by omega, by omega⟩ | exact .inr ⟨by omega, by omega⟩) | (show CPow _ _; exact ⟨by omega, by omega, by omega⟩) | (show (_ : Nat) ≤ sizeLine; exact Nat.le_of_ble_eq_true rfl)) ?_) ))
            (intro u hu; generalize eH : upd H7 u _ = H8; have k12 : Kp [] H7 H8 := eH ▸ Kp.new hu; replace hu := (congrFun eH.symm u).trans upd_same; clear eH; replace pn7 := Pen.same k12 pn7; replace hc3 := StrL.same k12 hc3; replace hl3 := LieAt.same k12 hl3; replace hz := StrL.same k12 hz; replace he := k12.same _ _ he; replace h7 := StrL.same k12 h7; replace kq3 := kq3.trans k12.q; clear k12)
            refine ⟨p, c, u, _, _, rfl, pn7, by omega, hu, rfl, by simp, by simp, fun v H9 hv k9 pn9 => ?_⟩
            obtain ⟨y4, ks, rfl, h4, a4, n4, s4⟩ : ∃ y ks, v = .ref y ∧ StrL H9 y ks ∧ ks.length ≤ 8 ∧ ks.Nodup ∧ ∀ x ∈ ks, x ∈ b3.cols := by
              simp only [List.mem_cons, List.not_mem_nil, or_false] at hv
              rcases hv with rfl | rfl | rfl
              · exact ⟨z, _, rfl, hz.kq k9, by simpa using ok3.kl, (List.reverse_perm _).nodup_iff.mpr ok3.ku, fun x hx => ok3.ks x (List.mem_reverse.mp hx)⟩
              · exact ⟨e, [], rfl, k9.keep _ _ rfl he, by simp, List.nodup_nil, by simp⟩
              · exact ⟨r, ys, rfl, h7.kq k9, by omega, nd7 ok3.cu, sub7⟩
            exact ⟨{ b3 with key := ks }, c3, y4, l3, rfl, hc3.kq k9, h4, hl3.kq k9, ok3.setKey a4 n4 s4, kq3.trans k9, pn9.le (by omega)⟩
          · rintro σ4 H5 ⟨b4, c4, y4, l4, rfl, hc4, hk4, hl4, ok4, kq4, pn4⟩
            clear hc3 hk3 hl3 pn3 kq3 ok3 b3 c3 y3 l3 H4
            refine ⟨fun σ' H' => ∃ b', Oth K H p c x way (n + 200) b' σ' H', ?_, ?_⟩
            · (repeat (first | (refine ⟨_, rfl, ?_⟩) | (refine ⟨_, _, rfl, rfl, ?_⟩) | (refine ⟨_, _, _, _, rfl, rfl, SqL.of (by assumption), (by rfl), ?_⟩) | (refine ⟨_, _, _, _, rfl, rfl, (by assumption), (by rfl), ?_⟩) | (refine ⟨_, _, _, _, rfl, rfl, SqL.of (by assumption), (by assumption), ?_⟩) | (refine ⟨_, _, rfl, .inl (SqL.of (by assumption)), ?_⟩) | (refine ⟨_, _, _, _, _, rfl, (by assumption), (by assumption), (by assumption), (by rfl), ?_⟩) | (refine ⟨_, _, _, _, rfl, (by assumption), (by assumption), (by assumption), (Nat.le_of_ble_eq_true rfl), ?_⟩) | (refine And.intro (by first | assumption | rfl | (show (0:Int) < _; omega) | (show CDiv _ _; exact ⟨by omega, by omega⟩) | (show CMul _ _; first | exact .inl ⟨by omega, by omega⟩ | exact .inr ⟨by omega, by omega⟩) | (show CPow _ _; exact ⟨by omega, by omega, by omega⟩) | (show (_ : Nat) ≤ sizeLine; exact Nat.le_of_ble_eq_true rfl)) ?_) ))
              refine ite2 (fun g => ?_) (fun g => ⟨b4, c4, y4, l4, rfl, hc4, hk4, hl4, ok4, kq4, pn4.le (by omega)⟩)
              (repeat (first | (refine ⟨_, rfl, ?_⟩) | (refine ⟨_, _, rfl, rfl, ?_⟩) | (refine ⟨_, _, _, _, rfl, rfl, SqL.of (by assumption), (by rfl), ?_⟩) | (refine ⟨_, _, _, _, rfl, rfl, (by assumption), (by rfl), ?_⟩) | (refine ⟨_, _, _, _, rfl, rfl, SqL.of (by assumption), (by assumption), ?_⟩) | (refine ⟨_, _, rfl, .inl (SqL.of (by assumption)), ?_⟩) | (refine ⟨_, _, _, _, _, rfl, (by assumption), (by assumption), (by assumption), (by rfl), ?_⟩) | (refine ⟨_, _, _, _, rfl, (by assumption), (by assumption), (by assumption), (Nat.le_of_ble_eq_true rfl), ?_⟩) | (refine And.intro (by first | assumption | rfl | (show (0:Int) < _; omega) | (show CDiv _ _; exact ⟨by omega, by omega⟩) | (show CMul _ _; first | exact .inl ⟨by omega, by omega⟩ | exact .inr ⟨by omega, by omega⟩) | (show CPow _ _; exact ⟨by omega, by omega, by omega⟩) | (show (_ : Nat) ≤ sizeLine; exact Nat.le_of_ble_eq_true rfl)) ?_) ))
              refine ⟨p, c, c4, _, b4.cols, rfl, pn4, by omega, hc4, ok4.cols, fun v l H6 hl6 so6 ok6 k6 pn6 => ?_⟩
              exact ⟨{ b4 with lie := l }, c4, y4, v, rfl, hc4.kq k6, hk4.kq k6, hl6, ok4.setLie ok6 so6, kq4.trans k6, pn6.le (by omega)⟩
            · rintro σ5 H6 ⟨b5, c5, y5, l5, rfl, hc5, hk5, hl5, ok5, kq5, pn5⟩
              (repeat (first | (refine ⟨_, rfl, ?_⟩) | (refine ⟨_, _, rfl, rfl, ?_⟩) | (refine ⟨_, _, _, _, rfl, rfl, SqL.of (by assumption), (by rfl), ?_⟩) | (refine ⟨_, _, _, _, rfl, rfl, (by assumption), (by rfl), ?_⟩) | (refine ⟨_, _, _, _, rfl, rfl, SqL.of (by assumption), (by assumption), ?_⟩) | (refine ⟨_, _, rfl, .inl (SqL.of (by assumption)), ?_⟩) | (refine ⟨_, _, _, _, _, rfl, (by assumption), (by assumption), (by assumption), (by rfl), ?_⟩) | (refine ⟨_, _, _, _, rfl, (by assumption), (by assumption), (by assumption), (Nat.le_of_ble_eq_true rfl), ?_⟩) | (refine And.intro (by first | assumption | rfl | (show (0:Int) < _; omega) | (show CDiv _ _; exact ⟨by omega, by omega⟩) | (show CMul _ _; first | exact .inl ⟨by omega, by omega⟩ | exact .inr ⟨by omega, by omega⟩) | (show CPow _ _; exact ⟨by omega, by omega, by omega⟩) | (show (_ : Nat) ≤ sizeLine; exact Nat.le_of_ble_eq_true rfl)) ?_) ))
              (intro z hz; generalize eH : upd H6 z _ = H7; have k12 : Kp [] H6 H7 := eH ▸ Kp.new hz; replace hz := (congrFun eH.symm z).trans upd_same; clear eH; replace pn5 := Pen.same k12 pn5; replace hc5 := StrL.same k12 hc5; replace hk5 := StrL.same k12 hk5; replace hl5 := LieAt.same k12 hl5; replace kq5 := kq5.trans k12.q; clear k12)
              exact k _ b5 H7 ⟨z, c5, y5, l5, rfl, hz, hc5, hk5, hl5⟩ ok5 kq5 (pn5.le (by omega))
end
end K14

namespace K14
open PySem L2 GB G1 Tb TL
theorem app_inj {α : Type} {p : α → Prop} : ∀ {a a' r r' : List α}, (∀ x ∈ a, p x) → (∀ x ∈ a', p x) → (∀ x ∈ r.head?, ¬ p x) → (∀ x ∈ r'.head?, ¬ p x) → r ≠ [] → r' ≠ [] → a ++ r = a' ++ r' → a = a' ∧ r = r'
  | [], [], _, _, _, _, _, _, _, _, e => ⟨rfl, e⟩
  | [], y :: ys, r, r', _, h', n, _, ne, _, e => by
    cases r with
    | nil => exact absurd rfl ne
    | cons z zs =>
      simp only [List.nil_append, List.cons_append, List.cons.injEq] at e
      exact absurd (h' y (List.mem_cons_self ..)) (n y (by rw [← e.1]; rfl))
  | x :: xs, [], r, r', h, _, _, n', _, ne', e => by
    cases r' with
    | nil => exact absurd rfl ne'
    | cons z zs =>
      simp only [List.nil_append, List.cons_append, List.cons.injEq] at e
      exact absurd (h x (List.mem_cons_self ..)) (n' x (by rw [e.1]; rfl))
  | x :: xs, y :: ys, r, r', h, h', n, n', ne, ne', e => by
    simp only [List.cons_append, List.cons.injEq] at e
    obtain ⟨e1, e2⟩ := app_inj (fun z hz => h z (List.mem_cons_of_mem _ hz)) (fun z hz => h' z (List.mem_cons_of_mem _ hz)) n n' ne ne' e.2
    exact ⟨by rw [e.1, e1], e2⟩
theorem name_word {x : Str} (h : nameB x = true) : x ∉ words := by
  unfold nameB at h
  simp only [Bool.and_eq_true, inV_str] at h
  have := h.1.1.2
  simpa using this
theorem name_space {x : Str} (h : nameB x = true) : 32 ∉ tl x := by
  unfold nameB at h
  simp only [Bool.and_eq_true] at h
  intro m
  have := List.all_eq_true.mp h.2 32 m
  exact absurd this (by decide +kernel)
theorem words_space : ∀ x ∈ words, 32 ∉ tl x := by decide +kernel
theorem lw_head (l : Lie) : ∃ x r, Lw l = x :: r ∧ x ∈ words ∧ x ≠ "key" := by
  cases l with
  | dealt r cs => exact ⟨_, _, rfl, by decide +kernel, by decide +kernel⟩
  | _ => exact ⟨_, _, rfl, by decide +kernel, by decide +kernel⟩
theorem lw_inj : ∀ {l l' : Lie}, Lw l = Lw l' → l = l'
  | .dealt r cs, .dealt r' cs', e => by
    simp only [Lw, List.cons.injEq, true_and] at e
    rw [e.1, e.2]
  | .dealt r cs, .copied, e => absurd (List.cons.inj e).1 (by decide +kernel)
  | .dealt r cs, .anyhow, e => absurd (List.cons.inj e).1 (by decide +kernel)
  | .dealt r cs, .zero, e => absurd (List.cons.inj e).1 (by decide +kernel)
  | .copied, .dealt r cs, e => absurd (List.cons.inj e).1 (by decide +kernel)
  | .anyhow, .dealt r cs, e => absurd (List.cons.inj e).1 (by decide +kernel)
  | .zero, .dealt r cs, e => absurd (List.cons.inj e).1 (by decide +kernel)
  | .copied, .copied, _ => rfl
  | .anyhow, .anyhow, _ => rfl
  | .zero, .zero, _ => rfl
  | .copied, .anyhow, e => absurd (List.cons.inj e).1 (by decide +kernel)
  | .copied, .zero, e => absurd (List.cons.inj e).1 (by decide +kernel)
  | .anyhow, .copied, e => absurd (List.cons.inj e).1 (by decide +kernel)
  | .anyhow, .zero, e => absurd (List.cons.inj e).1 (by decide +kernel)
  | .zero, .copied, e => absurd (List.cons.inj e).1 (by decide +kernel)
  | .zero, .anyhow, e => absurd (List.cons.inj e).1 (by decide +kernel)
theorem row_space {b : Bare} (ok : BOk b) : ∀ x ∈ rowWords b, 32 ∉ tl x := by
  have cn : ∀ x ∈ b.cols, 32 ∉ tl x := fun x h => name_space (ok.cn x h)
  intro x hx
  simp only [rowWords, List.mem_append] at hx
  rcases hx with (hx | hx) | hx
  · simp only [w1, List.mem_cons] at hx
    rcases hx with rfl | rfl | hx
    · exact words_space _ (by decide +kernel)
    · exact name_space ok.name
    · exact cn x hx
  · by_cases z : b.key = []
    · simp [kw, z] at hx
    · simp only [kw, if_neg z, List.mem_cons] at hx
      rcases hx with rfl | hx
      · exact words_space _ (by decide +kernel)
      · exact cn x (ok.ks x hx)
  · have hlie := ok.lie
    cases h : b.lie with
    | dealt r cs =>
      rw [h] at hx hlie
      simp only [Lw, List.mem_cons] at hx
      rcases hx with rfl | rfl | hx
      · exact words_space _ (by decide +kernel)
      · exact name_space hlie.1
      · exact cn x (hlie.2.2.2 x hx)
    | _ => rw [h] at hx; simp only [Lw, List.mem_cons, List.not_mem_nil, or_false] at hx; subst hx; exact words_space _ (by decide +kernel)
theorem words_inj {b b' : Bare} (ok : BOk b) (ok' : BOk b') (e : rowWords b = rowWords b') : b = b' := by
  obtain ⟨n, cs, ks, l⟩ := b
  obtain ⟨n', cs', ks', l'⟩ := b'
  simp only [rowWords, w1, List.cons_append, List.cons.injEq, true_and, List.append_assoc] at e
  obtain ⟨rfl, e⟩ := e
  obtain ⟨x, r, hx, hw, hk⟩ := lw_head l
  obtain ⟨x', r', hx', hw', hk'⟩ := lw_head l'
  have kwd : ("key" : Str) ∈ words := by decide +kernel
  have hd : ∀ (ks : List Str) (l : Lie), (∀ y ∈ ((if ks = [] then [] else ("key" : Str) :: ks) ++ Lw l).head?, ¬ (y ∉ words)) ∧ ((if ks = [] then [] else ("key" : Str) :: ks) ++ Lw l) ≠ [] := by
    intro ks l
    obtain ⟨x, r, hx, hw, hk⟩ := lw_head l
    by_cases z : ks = []
    · rw [if_pos z, hx]; exact ⟨fun y hy => by simp at hy; subst hy; exact fun q => q hw, by simp⟩
    · rw [if_neg z]; exact ⟨fun y hy => by simp at hy; subst hy; exact fun q => q kwd, by simp⟩
  obtain ⟨rfl, e3⟩ := app_inj (p := fun y => y ∉ words) (fun y hy => name_word (ok.cn y hy)) (fun y hy => name_word (ok'.cn y hy)) (hd ks l).1 (hd ks' l').1 (hd ks l).2 (hd ks' l').2 e
  have nk : ∀ y ∈ ks, y ∉ words := fun y hy => name_word (ok.cn y (ok.ks y hy))
  have nk' : ∀ y ∈ ks', y ∉ words := fun y hy => name_word (ok'.cn y (ok'.ks y hy))
  have el : ∀ l : Lie, (∀ y ∈ (Lw l).head?, ¬ (y ∉ words)) ∧ Lw l ≠ [] := by
    intro l
    obtain ⟨x, r, hx, hw, hk⟩ := lw_head l
    rw [hx]; exact ⟨fun y hy => by simp at hy; subst hy; exact fun q => q hw, by simp⟩
  clear e
  by_cases z : ks = [] <;> by_cases z' : ks' = []
  · rw [if_pos z, if_pos z', List.nil_append, List.nil_append] at e3
    rw [z, z', lw_inj e3]
  · rw [if_pos z, if_neg z', List.nil_append, hx] at e3
    exact absurd (List.cons.inj e3).1 hk
  · rw [if_neg z, if_pos z', List.nil_append, hx'] at e3
    exact absurd (List.cons.inj e3).1.symm hk'
  · rw [if_neg z, if_neg z'] at e3
    obtain ⟨rfl, e2⟩ := app_inj (p := fun y => y ∉ words) nk nk' (el l).1 (el l').1 (el l).2 (el l').2 (List.cons.inj e3).2
    rw [lw_inj e2]
theorem row_inj {b b' : Bare} (ok : BOk b) (ok' : BOk b') (e : row b = row b') : b = b' := by
  refine words_inj ok ok' ?_
  have sp : tl (" " : Str) = 32 :: [] := by decide +kernel
  have hk : (" " : Str).cps.all (· < 256) = true := by decide +kernel
  have h1 := split_join sp hk (parts := rowWords b) (by simp [rowWords, w1]) (row_space ok)
  have h2 := split_join sp hk (parts := rowWords b') (by simp [rowWords, w1]) (row_space ok')
  have e' : Txt.join " " (rowWords b) = Txt.join " " (rowWords b') := e
  rw [← h1, ← h2, e']
end K14

namespace K14
open PySem L2 GB G0 Tb TL
theorem wtStrs : ∀ l : List Str, (∀ x ∈ l, x.length ≤ 8) → PyData.weightAll (l.map PyData.str) ≤ 9 * l.length
  | [], _ => Nat.le_refl _
  | x :: xs, h => by
    have := wtStrs xs fun y hy => h y (List.mem_cons_of_mem _ hy)
    have h2 : x.cps.size ≤ 8 := h x (List.mem_cons_self ..)
    simp only [List.map_cons, PyData.weightAll, PyData.weight, List.length_cons]; omega
theorem shStrs : ∀ l : List Str, PyData.showableAll (l.map PyData.str) = true
  | [] => rfl
  | x :: xs => by simp only [List.map_cons, PyData.showableAll, PyData.showable, shStrs xs]; rfl
theorem isStrs : ∀ l : List Str, PyData.intsShortAll 13 (l.map PyData.str) = true
  | [] => rfl
  | x :: xs => by simp only [List.map_cons, PyData.intsShortAll, PyData.intsShort, isStrs xs]; rfl
theorem lie_show (l : Lie) : l.data.showable = true ∧ l.data.intsShort 13 = true := by
  cases l with
  | dealt r cs => exact ⟨by simp [Lie.data, PyData.showable, PyData.showableAll, shStrs], by simp [Lie.data, PyData.intsShort, PyData.intsShortAll, isStrs]⟩
  | _ => exact ⟨rfl, rfl⟩
theorem lie_weight {cols : List Str} {l : Lie} (h : LieOk cols l) (hc : ∀ x ∈ cols, x.length ≤ 8) : l.data.weight ≤ 100 := by
  cases l with
  | dealt r cs =>
    have h1 := wtStrs cs fun x hx => hc x (h.2.2.2 x hx)
    have h2 : r.cps.size ≤ 8 := (name_len h.1).2
    have h3 : Str.length ("dealt" : Str) = 5 := by decide +kernel
    have h4 : (Str.ofString "dealt").cps.size = 5 := h3
    have h5 := h.2.1
    simp only [Lie.data, PyData.weight, PyData.weightAll, h4]
    omega
  | copied => exact Nat.le_of_ble_eq_true (by decide +kernel)
  | anyhow => exact Nat.le_of_ble_eq_true (by decide +kernel)
  | zero => exact Nat.le_of_ble_eq_true (by decide +kernel)
theorem bare_show {b : Bare} (ok : BOk b) : b.data.showable = true ∧ b.data.depth ≤ 20 ∧ b.data.shown.length ≤ sizeLine := by
  have c8 : ∀ x ∈ b.cols, x.length ≤ 8 := fun x h => (name_len (ok.cn x h)).2
  have k8 : ∀ x ∈ b.key, x.length ≤ 8 := fun x h => c8 x (ok.ks x h)
  have hl := lie_show b.lie
  have dl := b.lie.dep
  have hd : b.data.depth ≤ 20 := by
    simp only [Bare.data, PyData.depth, PyData.depthAll, depStrs]; omega
  refine ⟨?_, hd, ?_⟩
  · simp [Bare.data, PyData.showable, PyData.showableAll, shStrs, hl.1]
  · refine Nat.le_trans (PyProof.Rows.shown_le13 (d := b.data) ?_ ?_) (by decide)
    · have h2 : b.data.weight ≤ 2 ^ 20 := by
        have w1 := wtStrs b.cols c8
        have w2 := wtStrs b.key k8
        have w3 := lie_weight ok.lie c8
        have w4 : b.name.cps.size ≤ 8 := (name_len ok.name).2
        have := ok.cl
        have := ok.kl
        simp only [Bare.data, PyData.weight, PyData.weightAll]; omega
      have h3 : b.data.canLay0 = true := SeqAt.canLay_of_shaped (b.shaped ok.sok)
      show (PyData.canLay0 _ && decide (PyData.depth _ ≤ 64) && decide (PyData.weight _ ≤ 2 ^ 20)) = true
      rw [h3, decide_eq_true (show b.data.depth ≤ 64 by omega), decide_eq_true h2]
      rfl
    · simp [Bare.data, PyData.intsShort, PyData.intsShortAll, isStrs, hl.2]
def spIs (K : PySem.W.Frag) (C : Addr) : Sp := fun vs H Q _ => ∃ (v u : V) (b : Bare), vs = [v, u] ∧ TabAt K C H v b ∧ BareAt K H u b ∧ BOk b ∧ ∀ H', Kp [] H H' → Q (.bl true) H'
section
variable {P : Program} {w : World} {K : PySem.W.Frag} {mg : Str → Option Value} {base : Heap} {aW aP C dk dl : Addr}
theorem cIs (D : Dfn K mg "_law_is" s_law_is) (T : Txt K mg aW aP C) (F : TabF K C) (mStr : Met P w K mg base 1 C "__str__" (spStr K C)) (cRow : Cal P w K mg base 1 "_law_row_of" (spRow K)) : Cal P w K mg base 4 "_law_is" (spIs K C) := by
  refine cal D sc_law_is (fun _ _ _ _ _ _ us hl => match us, hl with | [_, _], _ => rfl) (fun vs H Q E h => ?_) (fun f cdv A outer s H vs Q E hr h => ?_)
  · obtain ⟨v, u, b, rfl, _⟩ := h; rfl
  · obtain ⟨v, u, b, rfl, ht, hb, ok, k⟩ := h
    refine ⟨_, (pss_cons (ps_set (i := 2) sc_law_is.nd rfl (Or.inl rfl) (pe_lst (pa_cons (pe_fld (pv 0) rfl) (pa_cons (pe_fld (pv 0) rfl) (pa_cons (pe_fld (pv 0) rfl) (pa_cons (pe_fld (pv 0) rfl) pa_nil))))))
      (pss_one (ps_ret (pe_and (pe_cmpR op_eq (pe_callB (call_reprD hr) (by rfl) T.n_repr (by decide +kernel) (pa_cons (pv 2) pa_nil)) (pe_callB (call_reprD hr) (by rfl) T.n_repr (by decide +kernel) (pa_cons (pv 1) pa_nil)) (nomark _)) (pe_one (pe_cmpR op_eq (pe_callTy (call_strO mStr hr (by decide)) (by rfl) T.n_str (by decide +kernel) (pa_cons (pv 0) pa_nil)) (pe_c cRow hr (by decide) (by rfl) (pa_cons (pv 1) pa_nil)) (nomark _))))))), ?_⟩
    show (_ : TS) _ [some v, some u, none] H
    have ht0 := ht
    obtain ⟨x, dx, c, y, l, rfl, hx, hc, hy, hl⟩ := ht
    have f0 := F.cls
    have f1 := F.n1
    have f2 := F.n2
    have f3 := F.n3
    have f4 := F.n4
    have kp : Kp [] H H := Kp.refl _ _
    (repeat (first | (refine ⟨_, rfl, ?_⟩) | (refine ⟨_, _, rfl, rfl, ?_⟩) | (refine ⟨_, _, _, _, rfl, rfl, SqL.of (by assumption), (by rfl), ?_⟩) | (refine ⟨_, _, _, _, rfl, rfl, (by assumption), (by rfl), ?_⟩) | (refine ⟨_, _, _, _, rfl, rfl, SqL.of (by assumption), (by assumption), ?_⟩) | (refine ⟨_, _, rfl, .inl (SqL.of (by assumption)), ?_⟩) | (refine ⟨_, _, _, _, _, rfl, (by assumption), (by assumption), (by assumption), (by rfl), ?_⟩) | (refine ⟨_, _, _, _, rfl, (by assumption), (by assumption), (by assumption), (Nat.le_of_ble_eq_true rfl), ?_⟩) | (refine And.intro (by first | assumption | rfl | (show (0:Int) < _; omega) | (show CDiv _ _; exact ⟨by omega, by omega⟩) | (show CMul _ _; first | exact .inl ⟨by omega, by omega⟩ | exact .inr ⟨by omega, by omega⟩) | (show CPow _ _; exact ⟨by omega, by omega, by omega⟩) | (show (_ : Nat) ≤ sizeLine; exact Nat.le_of_ble_eq_true rfl)) ?_) ))
    (intro a ha; generalize eH : upd H a _ = H1; have k12 : Kp [] H H1 := eH ▸ Kp.new ha; replace ha := (congrFun eH.symm a).trans upd_same; clear eH; replace hx := k12.same _ _ hx; replace hc := StrL.same k12 hc; replace hy := StrL.same k12 hy; replace hl := LieAt.same k12 hl; replace hb := BareAt.same k12 hb; replace ht0 := TabAt.same k12 ht0; replace kp := kp.trans (k12.mono (fun _ z => nomatch z)); clear k12)
    have sh := bare_show ok
    have hb1 : BareAt K H1 (.ref a) b := ⟨a, c, y, l, rfl, ha, hc, hy, hl⟩
    (repeat (first | (refine ⟨_, rfl, ?_⟩) | (refine ⟨_, _, rfl, rfl, ?_⟩) | (refine ⟨_, _, _, _, rfl, rfl, SqL.of (by assumption), (by rfl), ?_⟩) | (refine ⟨_, _, _, _, rfl, rfl, (by assumption), (by rfl), ?_⟩) | (refine ⟨_, _, _, _, rfl, rfl, SqL.of (by assumption), (by assumption), ?_⟩) | (refine ⟨_, _, rfl, .inl (SqL.of (by assumption)), ?_⟩) | (refine ⟨_, _, _, _, _, rfl, (by assumption), (by assumption), (by assumption), (by rfl), ?_⟩) | (refine ⟨_, _, _, _, rfl, (by assumption), (by assumption), (by assumption), (Nat.le_of_ble_eq_true rfl), ?_⟩) | (refine And.intro (by first | assumption | rfl | (show (0:Int) < _; omega) | (show CDiv _ _; exact ⟨by omega, by omega⟩) | (show CMul _ _; first | exact .inl ⟨by omega, by omega⟩ | exact .inr ⟨by omega, by omega⟩) | (show CPow _ _; exact ⟨by omega, by omega, by omega⟩) | (show (_ : Nat) ≤ sizeLine; exact Nat.le_of_ble_eq_true rfl)) ?_) ))
    have hb0 := hb
    obtain ⟨z, c', y', l', rfl, _⟩ := hb0
    refine ⟨_, b.data, rfl, hb1.dp, sh.1, sh.2.1, sh.2.2, ?_⟩
    (repeat (first | (refine ⟨_, rfl, ?_⟩) | (refine ⟨_, _, rfl, rfl, ?_⟩) | (refine ⟨_, _, _, _, rfl, rfl, SqL.of (by assumption), (by rfl), ?_⟩) | (refine ⟨_, _, _, _, rfl, rfl, (by assumption), (by rfl), ?_⟩) | (refine ⟨_, _, _, _, rfl, rfl, SqL.of (by assumption), (by assumption), ?_⟩) | (refine ⟨_, _, rfl, .inl (SqL.of (by assumption)), ?_⟩) | (refine ⟨_, _, _, _, _, rfl, (by assumption), (by assumption), (by assumption), (by rfl), ?_⟩) | (refine ⟨_, _, _, _, rfl, (by assumption), (by assumption), (by assumption), (Nat.le_of_ble_eq_true rfl), ?_⟩) | (refine And.intro (by first | assumption | rfl | (show (0:Int) < _; omega) | (show CDiv _ _; exact ⟨by omega, by omega⟩) | (show CMul _ _; first | exact .inl ⟨by omega, by omega⟩ | exact .inr ⟨by omega, by omega⟩) | (show CPow _ _; exact ⟨by omega, by omega, by omega⟩) | (show (_ : Nat) ≤ sizeLine; exact Nat.le_of_ble_eq_true rfl)) ?_) ))
    refine ⟨_, b.data, rfl, hb.dp, sh.1, sh.2.1, sh.2.2, ?_⟩
    (repeat (first | (refine ⟨_, rfl, ?_⟩) | (refine ⟨_, _, rfl, rfl, ?_⟩) | (refine ⟨_, _, _, _, rfl, rfl, SqL.of (by assumption), (by rfl), ?_⟩) | (refine ⟨_, _, _, _, rfl, rfl, (by assumption), (by rfl), ?_⟩) | (refine ⟨_, _, _, _, rfl, rfl, SqL.of (by assumption), (by assumption), ?_⟩) | (refine ⟨_, _, rfl, .inl (SqL.of (by assumption)), ?_⟩) | (refine ⟨_, _, _, _, _, rfl, (by assumption), (by assumption), (by assumption), (by rfl), ?_⟩) | (refine ⟨_, _, _, _, rfl, (by assumption), (by assumption), (by assumption), (Nat.le_of_ble_eq_true rfl), ?_⟩) | (refine And.intro (by first | assumption | rfl | (show (0:Int) < _; omega) | (show CDiv _ _; exact ⟨by omega, by omega⟩) | (show CMul _ _; first | exact .inl ⟨by omega, by omega⟩ | exact .inr ⟨by omega, by omega⟩) | (show CPow _ _; exact ⟨by omega, by omega, by omega⟩) | (show (_ : Nat) ≤ sizeLine; exact Nat.le_of_ble_eq_true rfl)) ?_) ))
    refine ite2 (fun _ => ?_) (fun g => absurd (decide_eq_true rfl) g)
    (repeat (first | (refine ⟨_, rfl, ?_⟩) | (refine ⟨_, _, rfl, rfl, ?_⟩) | (refine ⟨_, _, _, _, rfl, rfl, SqL.of (by assumption), (by rfl), ?_⟩) | (refine ⟨_, _, _, _, rfl, rfl, (by assumption), (by rfl), ?_⟩) | (refine ⟨_, _, _, _, rfl, rfl, SqL.of (by assumption), (by assumption), ?_⟩) | (refine ⟨_, _, rfl, .inl (SqL.of (by assumption)), ?_⟩) | (refine ⟨_, _, _, _, _, rfl, (by assumption), (by assumption), (by assumption), (by rfl), ?_⟩) | (refine ⟨_, _, _, _, rfl, (by assumption), (by assumption), (by assumption), (Nat.le_of_ble_eq_true rfl), ?_⟩) | (refine And.intro (by first | assumption | rfl | (show (0:Int) < _; omega) | (show CDiv _ _; exact ⟨by omega, by omega⟩) | (show CMul _ _; first | exact .inl ⟨by omega, by omega⟩ | exact .inr ⟨by omega, by omega⟩) | (show CPow _ _; exact ⟨by omega, by omega, by omega⟩) | (show (_ : Nat) ≤ sizeLine; exact Nat.le_of_ble_eq_true rfl)) ?_) ))
    refine ⟨x, dx, _, rfl, hx, _, b, rfl, ht0, ok, fun H2 k2 => ?_⟩
    refine ⟨_, rfl, ?_⟩
    (repeat (first | (refine ⟨_, rfl, ?_⟩) | (refine ⟨_, _, rfl, rfl, ?_⟩) | (refine ⟨_, _, _, _, rfl, rfl, SqL.of (by assumption), (by rfl), ?_⟩) | (refine ⟨_, _, _, _, rfl, rfl, (by assumption), (by rfl), ?_⟩) | (refine ⟨_, _, _, _, rfl, rfl, SqL.of (by assumption), (by assumption), ?_⟩) | (refine ⟨_, _, rfl, .inl (SqL.of (by assumption)), ?_⟩) | (refine ⟨_, _, _, _, _, rfl, (by assumption), (by assumption), (by assumption), (by rfl), ?_⟩) | (refine ⟨_, _, _, _, rfl, (by assumption), (by assumption), (by assumption), (Nat.le_of_ble_eq_true rfl), ?_⟩) | (refine And.intro (by first | assumption | rfl | (show (0:Int) < _; omega) | (show CDiv _ _; exact ⟨by omega, by omega⟩) | (show CMul _ _; first | exact .inl ⟨by omega, by omega⟩ | exact .inr ⟨by omega, by omega⟩) | (show CPow _ _; exact ⟨by omega, by omega, by omega⟩) | (show (_ : Nat) ≤ sizeLine; exact Nat.le_of_ble_eq_true rfl)) ?_) ))
    refine ⟨_, b, rfl, hb.same k2, ok, fun H3 k3 => ?_⟩
    (repeat (first | (refine ⟨_, rfl, ?_⟩) | (refine ⟨_, _, rfl, rfl, ?_⟩) | (refine ⟨_, _, _, _, rfl, rfl, SqL.of (by assumption), (by rfl), ?_⟩) | (refine ⟨_, _, _, _, rfl, rfl, (by assumption), (by rfl), ?_⟩) | (refine ⟨_, _, _, _, rfl, rfl, SqL.of (by assumption), (by assumption), ?_⟩) | (refine ⟨_, _, rfl, .inl (SqL.of (by assumption)), ?_⟩) | (refine ⟨_, _, _, _, _, rfl, (by assumption), (by assumption), (by assumption), (by rfl), ?_⟩) | (refine ⟨_, _, _, _, rfl, (by assumption), (by assumption), (by assumption), (Nat.le_of_ble_eq_true rfl), ?_⟩) | (refine And.intro (by first | assumption | rfl | (show (0:Int) < _; omega) | (show CDiv _ _; exact ⟨by omega, by omega⟩) | (show CMul _ _; first | exact .inl ⟨by omega, by omega⟩ | exact .inr ⟨by omega, by omega⟩) | (show CPow _ _; exact ⟨by omega, by omega, by omega⟩) | (show (_ : Nat) ≤ sizeLine; exact Nat.le_of_ble_eq_true rfl)) ?_) ))
    have e : decide (V.str (row b) = V.str (row b)) = true := decide_eq_true rfl
    rw [e]
    exact k _ ((kp.trans k2).trans k3)
end
end K14

namespace K14
open PySem L2 GB G0 Tb TL
def spLaw (K : PySem.W.Frag) : Sp := fun vs H Q _ => ∃ (a : Addr) (ns : List Int), vs = [.ref a] ∧ SqL K H a (ns.map V.int) ∧ ns.length ≤ 63 ∧ ∀ H', Q (.bl true) H'
structure ClsF (K : PySem.W.Frag) (C : Addr) : Prop where
  ex : ∃ mc u, ClX.CRead K C mc ∧ ClX.CVal K C mc "MOST_COLUMNS" (.int 8) u
section
variable {K : PySem.W.Frag} {C : Addr} {H : Hp} {v u : V} {b b' : Bare} {neg : Bool → Bool} {Q : VK}
theorem eqT (F : TabF K C) (ht : TabAt K C H v b) (ok : BOk b) (hu : TabAt K C H u b') (ok' : BOk b') (q : ∀ H', Kp [] H H' → Q (.bl (neg (decide (row b = row b')))) H') : rCmpO K C (spEq K C) neg v u H Q := by
  obtain ⟨x, dx, c, k, l, rfl, hx, _⟩ := id ht
  exact ⟨x, dx, _, rfl, hx, ⟨_, F.ty hu, F.fSelf⟩, _, _, b, rfl, ht, ok, .inl ⟨b', hu, ok', fun H' k' => ⟨_, rfl, q H' k'⟩⟩⟩
theorem eqN {t : Value} (ht : TabAt K C H v b) (ok : BOk b) (ty : TyX K H u t) (kt : PySem.W.kitOne K t (.ref C) = some false) (nf : PySem.W.notFirst K C t = true) (q : Q (.bl (neg false)) H) : rCmpO K C (spEq K C) neg v u H Q := by
  obtain ⟨x, dx, c, k, l, rfl, hx, _⟩ := id ht
  exact ⟨x, dx, _, rfl, hx, ⟨_, ty, nf⟩, _, _, b, rfl, ht, ok, .inr ⟨t, ty, kt, _, rfl, q⟩⟩
theorem strT (ht : TabAt K C H v b) (ok : BOk b) (q : ∀ H', Kp [] H H' → Q (.str (row b)) H') : rStrO C (spStr K C) [v] H Q := by
  obtain ⟨x, dx, c, k, l, rfl, hx, _⟩ := id ht
  exact ⟨x, dx, _, rfl, hx, _, b, rfl, ht, ok, fun H' k' => ⟨_, rfl, q H' k'⟩⟩
theorem row_dec (ok : BOk b) (ok' : BOk b') : decide (row b = row b') = PyData.eqv b.data b'.data := by
  rw [Bare.eqv]
  exact decide_eq_decide.mpr ⟨row_inj ok ok', fun h => by rw [h]⟩
end
section
variable {P : Program} {w : World} {K : PySem.W.Frag} {mg : Str → Option Value} {base : Heap} {aW aP C dk dl : Addr}
theorem cLaw (D : Dfn K mg "law" s_law) (T : Txt K mg aW aP C) (F : TabF K C) (G : ClsF K C) (cPen : Cal P w K mg base 1 "_law_pen" (spPen K)) (cBare : Cal P w K mg base 4 "_law_bare" (spBare K)) (cMade : Cal P w K mg base 5 "_law_made" (spMade K C)) (cOther : Cal P w K mg base 4 "_law_other" (spOther K))
    (cIs : Cal P w K mg base 4 "_law_is" (spIs K C)) (mEq : Met P w K mg base 4 C "__eq__" (spEq K C)) (mStr : Met P w K mg base 1 C "__str__" (spStr K C)) (cSome : Cal P w K mg base 2 "_law_some" spSome) (cLie : Cal P w K mg base 3 "_law_lie" (spLie K))
    (cKeyed : Cal P w K mg base 6 "_law_keyed" (spKeyed K C)) (mLie : Met P w K mg base 5 C "with_lie" (spWithLie K C)) (kAB : G1.KMk P w K mg base 3 "Table" C 2 ["key", "lies"] (fun vs zs => vs ++ zs) (spInit K C)) : Cal P w K mg base 7 "law" (spLaw K) := by
  refine cal D sc_law (fun _ _ _ _ _ _ us hl => match us, hl with | [_], _ => rfl) (fun vs H Q E h => ?_) (fun f cdv A outer s H vs Q E hr h => ?_)
  · obtain ⟨a, ns, rfl, _⟩ := h; rfl
  · obtain ⟨a, ns, rfl, ha, hn, k⟩ := h
    refine ⟨_, (pss_cons (ps_set (i := 1) sc_law.nd rfl (Or.inl rfl) (pe_c cPen hr (by decide) (by rfl) (pa_cons (pv 0) pa_nil)))
      (pss_cons (ps_for PassesOwn.never rfl (pi_range1 (by rfl) T.n_range (pa_cons pe_int pa_nil)) (pg_name (i := 2) sc_law.nd rfl (Or.inl rfl))
      (pss_cons (ps_set (i := 3) sc_law.nd rfl (Or.inl rfl) (pe_c cBare hr (by decide) (by rfl) (pa_cons (pv 1) pa_nil)))
      (pss_cons (ps_set (i := 4) sc_law.nd rfl (Or.inl rfl) (pe_c cMade hr (by decide) (by rfl) (pa_cons (pv 1) (pa_cons (pv 3) pa_nil))))
      (pss_cons (ps_set (i := 5) sc_law.nd rfl (Or.inl rfl) (pe_c cOther hr (by decide) (by rfl) (pa_cons (pv 1) (pa_cons (pv 3) pa_nil))))
      (pss_cons (ps_set (i := 6) sc_law.nd rfl (Or.inl rfl) (pe_c cMade hr (by decide) (by rfl) (pa_cons (pv 1) (pa_cons (pv 5) pa_nil))))
      (pss_cut (ps_if (PW.pt (pw_or (pt_not (pt_val (pe_c cIs hr (by decide) (by rfl) (pa_cons (pv 4) (pa_cons (pv 3) pa_nil))))) (pw_or1 (pt_not (pt_val (pe_c cIs hr (by decide) (by rfl) (pa_cons (pv 6) (pa_cons (pv 5) pa_nil)))))))) (pss_one (ps_ret pe_bl)) pss_nil)
      (pss_cut (ps_if (PW.pt (pw_or (pt_cmpR op_ne (pe_cmpR (op_eqO mEq hr (by decide)) (pv 4) (pv 6) (nomark _)) (pe_cmpR (op_eqD hr.units) (pv 3) (pv 5) (nomark _)) (nomark _)) (pw_or1 (pt_cmpR op_ne (pe_cmpR (op_eqO mEq hr (by decide)) (pv 6) (pv 4) (nomark _)) (pe_cmpR (op_eqD hr.units) (pv 3) (pv 5) (nomark _)) (nomark _))))) (pss_one (ps_ret pe_bl)) pss_nil)
      (pss_cut (ps_if (PW.pt (pw_or (pt_cmpR (op_eqO mEq hr (by decide)) (pv 4) (pe_callTy (call_strO mStr hr (by decide)) (by rfl) T.n_str (by decide +kernel) (pa_cons (pv 4) pa_nil)) (nomark _)) (pw_or (pt_cmpR (op_eqO mEq hr (by decide)) (pv 4) pe_non (nomark _)) (pw_or (pt_cmpR (op_eqO mEq hr (by decide)) (pv 4) (pv 3) (nomark _)) (pw_or1 (pt_not (pt_cmpR (op_neO mEq F.ne F.mks hr (by decide)) (pv 4) (pe_callTy (call_strO mStr hr (by decide)) (by rfl) T.n_str (by decide +kernel) (pa_cons (pv 4) pa_nil)) (nomark _)))))))) (pss_one (ps_ret pe_bl)) pss_nil)
      (pss_cons (ps_set (i := 7) sc_law.nd rfl (Or.inl rfl) (pe_c cSome hr (by decide) (by rfl) (pa_cons (pv 1) (pa_cons (pe_ix ix_list (pv 3) pe_int (fun _ _ => rfl)) (pa_cons pe_int (pa_cons pe_int pa_nil))))))
      (pss_cons (ps_set (i := 8) sc_law.nd rfl (Or.inl rfl) (pe_c cLie hr (by decide) (by rfl) (pa_cons (pv 1) (pa_cons (pe_ix ix_list (pv 3) pe_int (fun _ _ => rfl)) pa_nil))))
      (pss_cons (ps_if (pt_not (pt_val (pe_c cIs hr (by decide) (by rfl) (pa_cons (pe_c cKeyed hr (by decide) (by rfl) (pa_cons (pv 4) (pa_cons (pv 7) pa_nil))) (pa_cons (pe_op op_cat (pe_op op_cat (pe_slice sl_list (pv 3) po_none (po_some pe_int)) (pe_lst (pa_cons (pv 7) pa_nil))) (pe_slice sl_list (pv 3) (po_some pe_int) po_none)) pa_nil))))) (pss_one (ps_ret pe_bl)) pss_nil)
      (pss_cut (ps_if (PW.pt (pw_or (pt_not (pt_val (pe_c cIs hr (by decide) (by rfl) (pa_cons (pe_mt F.cls mLie hr (by decide) (pv 4) (pa_cons (pv 8) pa_nil)) (pa_cons (pe_op op_cat (pe_slice sl_list (pv 3) po_none (po_some pe_int)) (pe_lst (pa_cons (pv 8) pa_nil))) pa_nil))))) (pw_or1 (pt_not (pt_val (pe_c cIs hr (by decide) (by rfl) (pa_cons (pv 4) (pa_cons (pv 3) pa_nil)))))))) (pss_one (ps_ret pe_bl)) pss_nil)
      (pss_cons (ps_set (i := 9) sc_law.nd rfl (Or.inl rfl) (pe_callTy call_list_of (by rfl) T.n_list (by decide +kernel) (pa_cons (pe_ix ix_list (pv 3) pe_int (fun _ _ => rfl)) pa_nil)))
      (pss_cons (ps_set (i := 10) sc_law.nd rfl (Or.inl rfl) (pe_callTy call_list_of (by rfl) T.n_list (by decide +kernel) (pa_cons (pe_ix ix_list (pv 3) pe_int (fun _ _ => rfl)) pa_nil)))
      (pss_cons (ps_set (i := 11) sc_law.nd rfl (Or.inl rfl) (G1.pe_kmk kAB hr.rm (by decide) (by rfl) (pa_cons (pe_ix ix_list (pv 3) pe_int (fun _ _ => rfl)) (pa_cons (pv 9) pa_nil)) (pk_cons (pv 10) (pk_cons (pe_ix ix_list (pv 3) pe_int (fun _ _ => rfl)) pk_nil))))
      (pss_cons (ps_expr (pe_bm PySem.F.plainAttrs_list PySem.F.slot_list_append PySem.F.type_list_append mt_append (pv 9) (pa_cons pe_str pa_nil)))
      (pss_cons (ps_expr (pe_bm PySem.F.plainAttrs_list PySem.F.slot_list_append PySem.F.type_list_append mt_append (pv 10) (pa_cons pe_str pa_nil)))
      (pss_one (ps_if (PW.pt (pw_or (pt_not (pt_val (pe_c cIs hr (by decide) (by rfl) (pa_cons (pv 11) (pa_cons (pv 3) pa_nil))))) (pw_or1 (pt_not (pt_cmpR (op_eqO mEq hr (by decide)) (pv 11) (pv 4) (nomark _)))))) (pss_one (ps_ret pe_bl)) pss_nil)))))))))))))))))))
      (pss_one (ps_ret (pe_cmpR op_eq (ClX.pe_cval (pe_glob (v := .ref _) rfl T.k_Table rfl)) pe_int (nomark _)))))), ?_⟩
    show (_ : TS) _ [some (V.ref a), none, none, none, none, none, none, none, none, none, none, none] H
    (repeat (first | (refine ⟨_, rfl, ?_⟩) | (refine ⟨_, _, rfl, rfl, ?_⟩) | (refine ⟨_, _, _, _, rfl, rfl, SqL.of (by assumption), (by rfl), ?_⟩) | (refine ⟨_, _, _, _, rfl, rfl, (by assumption), (by rfl), ?_⟩) | (refine ⟨_, _, _, _, rfl, rfl, SqL.of (by assumption), (by assumption), ?_⟩) | (refine ⟨_, _, rfl, .inl (SqL.of (by assumption)), ?_⟩) | (refine ⟨_, _, _, _, _, rfl, (by assumption), (by assumption), (by assumption), (by rfl), ?_⟩) | (refine ⟨_, _, _, _, rfl, (by assumption), (by assumption), (by assumption), (Nat.le_of_ble_eq_true rfl), ?_⟩) | (refine And.intro (by first | assumption | rfl | (show (0:Int) < _; omega) | (show CDiv _ _; exact ⟨by omega, by omega⟩) | (show CMul _ _; first | exact .inl ⟨by omega, by omega⟩ | exact .inr ⟨by omega, by omega⟩) | (show CPow _ _; exact ⟨by omega, by omega, by omega⟩) | (show (_ : Nat) ≤ sizeLine; exact Nat.le_of_ble_eq_true rfl)) ?_) ))
    refine ⟨a, ns, rfl, ha, hn, fun p c H1 fp k1 pen => ?_⟩
    refine ⟨_, rfl, ?_⟩
    refine ⟨by decide, by decide, ?_⟩
    refine for_it walk_range (fun i σ H' => ∃ t2 t3 t4 t5 t6 t7 t8 t9 t10 t11 : Option V, σ = [some (V.ref a), some (V.ref p), t2, t3, t4, t5, t6, t7, t8, t9, t10, t11] ∧ Pen H' p c (1000 * i)) ⟨none, none, none, none, none, none, none, none, none, none, rfl, by simpa using pen⟩ (fun _ _ _ _ _ => trivial) ?_ ?_
    · rintro i x _ H2 _ hi ⟨t2, t3, t4, t5, t6, t7, t8, t9, t10, t11, rfl, pen⟩ ⟨rfl, rfl⟩
      have hi' : (6 : Int).toNat = 6 := rfl
      rw [hi'] at hi
      clear k1 fp ha
      rename_i H2
      (repeat (first | (refine ⟨_, rfl, ?_⟩) | (refine ⟨_, _, rfl, rfl, ?_⟩) | (refine ⟨_, _, _, _, rfl, rfl, SqL.of (by assumption), (by rfl), ?_⟩) | (refine ⟨_, _, _, _, rfl, rfl, (by assumption), (by rfl), ?_⟩) | (refine ⟨_, _, _, _, rfl, rfl, SqL.of (by assumption), (by assumption), ?_⟩) | (refine ⟨_, _, rfl, .inl (SqL.of (by assumption)), ?_⟩) | (refine ⟨_, _, _, _, _, rfl, (by assumption), (by assumption), (by assumption), (by rfl), ?_⟩) | (refine ⟨_, _, _, _, rfl, (by assumption), (by assumption), (by assumption), (Nat.le_of_ble_eq_true rfl), ?_⟩) | (refine And.intro (by first | assumption | rfl | (show (0:Int) < _; omega) | (show CDiv _ _; exact ⟨by omega, by omega⟩) | (show CMul _ _; first | exact .inl ⟨by omega, by omega⟩ | exact .inr ⟨by omega, by omega⟩) | (show CPow _ _; exact ⟨by omega, by omega, by omega⟩) | (show (_ : Nat) ≤ sizeLine; exact Nat.le_of_ble_eq_true rfl)) ?_) ))
      refine ⟨p, c, _, rfl, pen, by omega, fun vb b H3 hb ok gc k3 pn => ?_⟩
      (repeat (first | (refine ⟨_, rfl, ?_⟩) | (refine ⟨_, _, rfl, rfl, ?_⟩) | (refine ⟨_, _, _, _, rfl, rfl, SqL.of (by assumption), (by rfl), ?_⟩) | (refine ⟨_, _, _, _, rfl, rfl, (by assumption), (by rfl), ?_⟩) | (refine ⟨_, _, _, _, rfl, rfl, SqL.of (by assumption), (by assumption), ?_⟩) | (refine ⟨_, _, rfl, .inl (SqL.of (by assumption)), ?_⟩) | (refine ⟨_, _, _, _, _, rfl, (by assumption), (by assumption), (by assumption), (by rfl), ?_⟩) | (refine ⟨_, _, _, _, rfl, (by assumption), (by assumption), (by assumption), (Nat.le_of_ble_eq_true rfl), ?_⟩) | (refine And.intro (by first | assumption | rfl | (show (0:Int) < _; omega) | (show CDiv _ _; exact ⟨by omega, by omega⟩) | (show CMul _ _; first | exact .inl ⟨by omega, by omega⟩ | exact .inr ⟨by omega, by omega⟩) | (show CPow _ _; exact ⟨by omega, by omega, by omega⟩) | (show (_ : Nat) ≤ sizeLine; exact Nat.le_of_ble_eq_true rfl)) ?_) ))
      refine ⟨p, c, _, _, b, rfl, pn, by omega, hb, ok, fun vt H4 ht k4 pn => ?_⟩
      replace hb := hb.kq k4
      (repeat (first | (refine ⟨_, rfl, ?_⟩) | (refine ⟨_, _, rfl, rfl, ?_⟩) | (refine ⟨_, _, _, _, rfl, rfl, SqL.of (by assumption), (by rfl), ?_⟩) | (refine ⟨_, _, _, _, rfl, rfl, (by assumption), (by rfl), ?_⟩) | (refine ⟨_, _, _, _, rfl, rfl, SqL.of (by assumption), (by assumption), ?_⟩) | (refine ⟨_, _, rfl, .inl (SqL.of (by assumption)), ?_⟩) | (refine ⟨_, _, _, _, _, rfl, (by assumption), (by assumption), (by assumption), (by rfl), ?_⟩) | (refine ⟨_, _, _, _, rfl, (by assumption), (by assumption), (by assumption), (Nat.le_of_ble_eq_true rfl), ?_⟩) | (refine And.intro (by first | assumption | rfl | (show (0:Int) < _; omega) | (show CDiv _ _; exact ⟨by omega, by omega⟩) | (show CMul _ _; first | exact .inl ⟨by omega, by omega⟩ | exact .inr ⟨by omega, by omega⟩) | (show CPow _ _; exact ⟨by omega, by omega, by omega⟩) | (show (_ : Nat) ≤ sizeLine; exact Nat.le_of_ble_eq_true rfl)) ?_) ))
      refine ⟨p, c, _, _, b, rfl, pn, by omega, hb, ok, gc, fun vo b' H5 ho ok' k5 pn => ?_⟩
      replace hb := hb.kq k5
      replace ht := ht.kq k5
      (repeat (first | (refine ⟨_, rfl, ?_⟩) | (refine ⟨_, _, rfl, rfl, ?_⟩) | (refine ⟨_, _, _, _, rfl, rfl, SqL.of (by assumption), (by rfl), ?_⟩) | (refine ⟨_, _, _, _, rfl, rfl, (by assumption), (by rfl), ?_⟩) | (refine ⟨_, _, _, _, rfl, rfl, SqL.of (by assumption), (by assumption), ?_⟩) | (refine ⟨_, _, rfl, .inl (SqL.of (by assumption)), ?_⟩) | (refine ⟨_, _, _, _, _, rfl, (by assumption), (by assumption), (by assumption), (by rfl), ?_⟩) | (refine ⟨_, _, _, _, rfl, (by assumption), (by assumption), (by assumption), (Nat.le_of_ble_eq_true rfl), ?_⟩) | (refine And.intro (by first | assumption | rfl | (show (0:Int) < _; omega) | (show CDiv _ _; exact ⟨by omega, by omega⟩) | (show CMul _ _; first | exact .inl ⟨by omega, by omega⟩ | exact .inr ⟨by omega, by omega⟩) | (show CPow _ _; exact ⟨by omega, by omega, by omega⟩) | (show (_ : Nat) ≤ sizeLine; exact Nat.le_of_ble_eq_true rfl)) ?_) ))
      refine ⟨p, c, _, _, b', rfl, pn, by omega, ho, ok', fun vs H6 hs k6 pn => ?_⟩
      replace hb := hb.kq k6
      replace ht := ht.kq k6
      replace ho := ho.kq k6
      clear k3 k4 k5 k6 pen
      refine ⟨fun σ' H' => σ' = [some (V.ref a), some (V.ref p), some (V.int (0 + i)), some vb, some vt, some vo, some vs, t7, t8, t9, t10, t11] ∧ Kp [] H6 H', ?_, ?_⟩
      · (repeat (first | (refine ⟨_, rfl, ?_⟩) | (refine ⟨_, _, rfl, rfl, ?_⟩) | (refine ⟨_, _, _, _, rfl, rfl, SqL.of (by assumption), (by rfl), ?_⟩) | (refine ⟨_, _, _, _, rfl, rfl, (by assumption), (by rfl), ?_⟩) | (refine ⟨_, _, _, _, rfl, rfl, SqL.of (by assumption), (by assumption), ?_⟩) | (refine ⟨_, _, rfl, .inl (SqL.of (by assumption)), ?_⟩) | (refine ⟨_, _, _, _, _, rfl, (by assumption), (by assumption), (by assumption), (by rfl), ?_⟩) | (refine ⟨_, _, _, _, rfl, (by assumption), (by assumption), (by assumption), (Nat.le_of_ble_eq_true rfl), ?_⟩) | (refine And.intro (by first | assumption | rfl | (show (0:Int) < _; omega) | (show CDiv _ _; exact ⟨by omega, by omega⟩) | (show CMul _ _; first | exact .inl ⟨by omega, by omega⟩ | exact .inr ⟨by omega, by omega⟩) | (show CPow _ _; exact ⟨by omega, by omega, by omega⟩) | (show (_ : Nat) ≤ sizeLine; exact Nat.le_of_ble_eq_true rfl)) ?_) ))
        refine ⟨_, _, b, rfl, ht, hb, ok, fun H7 k7 => ?_⟩
        refine ⟨_, rfl, iteF ?_⟩
        (repeat (first | (refine ⟨_, rfl, ?_⟩) | (refine ⟨_, _, rfl, rfl, ?_⟩) | (refine ⟨_, _, _, _, rfl, rfl, SqL.of (by assumption), (by rfl), ?_⟩) | (refine ⟨_, _, _, _, rfl, rfl, (by assumption), (by rfl), ?_⟩) | (refine ⟨_, _, _, _, rfl, rfl, SqL.of (by assumption), (by assumption), ?_⟩) | (refine ⟨_, _, rfl, .inl (SqL.of (by assumption)), ?_⟩) | (refine ⟨_, _, _, _, _, rfl, (by assumption), (by assumption), (by assumption), (by rfl), ?_⟩) | (refine ⟨_, _, _, _, rfl, (by assumption), (by assumption), (by assumption), (Nat.le_of_ble_eq_true rfl), ?_⟩) | (refine And.intro (by first | assumption | rfl | (show (0:Int) < _; omega) | (show CDiv _ _; exact ⟨by omega, by omega⟩) | (show CMul _ _; first | exact .inl ⟨by omega, by omega⟩ | exact .inr ⟨by omega, by omega⟩) | (show CPow _ _; exact ⟨by omega, by omega, by omega⟩) | (show (_ : Nat) ≤ sizeLine; exact Nat.le_of_ble_eq_true rfl)) ?_) ))
        refine ⟨_, _, b', rfl, hs.same k7, ho.same k7, ok', fun H8 k8 => ?_⟩
        exact ⟨_, rfl, iteF ⟨rfl, k7.trans k8⟩⟩
      · rintro _ H7 ⟨rfl, k7⟩
        replace hb := hb.same k7
        replace ht := ht.same k7
        replace ho := ho.same k7
        replace hs := hs.same k7
        replace pn := pn.same k7
        clear k7
        refine ⟨fun σ' H' => σ' = [some (V.ref a), some (V.ref p), some (V.int (0 + i)), some vb, some vt, some vo, some vs, t7, t8, t9, t10, t11] ∧ Kp [] H7 H', ?_, ?_⟩
        · (repeat (first | (refine ⟨_, rfl, ?_⟩) | (refine ⟨_, _, rfl, rfl, ?_⟩) | (refine ⟨_, _, _, _, rfl, rfl, SqL.of (by assumption), (by rfl), ?_⟩) | (refine ⟨_, _, _, _, rfl, rfl, (by assumption), (by rfl), ?_⟩) | (refine ⟨_, _, _, _, rfl, rfl, SqL.of (by assumption), (by assumption), ?_⟩) | (refine ⟨_, _, rfl, .inl (SqL.of (by assumption)), ?_⟩) | (refine ⟨_, _, _, _, _, rfl, (by assumption), (by assumption), (by assumption), (by rfl), ?_⟩) | (refine ⟨_, _, _, _, rfl, (by assumption), (by assumption), (by assumption), (Nat.le_of_ble_eq_true rfl), ?_⟩) | (refine And.intro (by first | assumption | rfl | (show (0:Int) < _; omega) | (show CDiv _ _; exact ⟨by omega, by omega⟩) | (show CMul _ _; first | exact .inl ⟨by omega, by omega⟩ | exact .inr ⟨by omega, by omega⟩) | (show CPow _ _; exact ⟨by omega, by omega, by omega⟩) | (show (_ : Nat) ≤ sizeLine; exact Nat.le_of_ble_eq_true rfl)) ?_) ))
          refine eqT F ht ok hs ok' fun H8 k8 => ?_
          (repeat (first | (refine ⟨_, rfl, ?_⟩) | (refine ⟨_, _, rfl, rfl, ?_⟩) | (refine ⟨_, _, _, _, rfl, rfl, SqL.of (by assumption), (by rfl), ?_⟩) | (refine ⟨_, _, _, _, rfl, rfl, (by assumption), (by rfl), ?_⟩) | (refine ⟨_, _, _, _, rfl, rfl, SqL.of (by assumption), (by assumption), ?_⟩) | (refine ⟨_, _, rfl, .inl (SqL.of (by assumption)), ?_⟩) | (refine ⟨_, _, _, _, _, rfl, (by assumption), (by assumption), (by assumption), (by rfl), ?_⟩) | (refine ⟨_, _, _, _, rfl, (by assumption), (by assumption), (by assumption), (Nat.le_of_ble_eq_true rfl), ?_⟩) | (refine And.intro (by first | assumption | rfl | (show (0:Int) < _; omega) | (show CDiv _ _; exact ⟨by omega, by omega⟩) | (show CMul _ _; first | exact .inl ⟨by omega, by omega⟩ | exact .inr ⟨by omega, by omega⟩) | (show CPow _ _; exact ⟨by omega, by omega, by omega⟩) | (show (_ : Nat) ≤ sizeLine; exact Nat.le_of_ble_eq_true rfl)) ?_) ))
          refine ⟨_, _, (hb.same k8).dp, (ho.same k8).dp, b.shaped ok.sok, b'.shaped ok'.sok, ?_⟩
          rw [row_dec ok ok']
          (repeat (first | (refine ⟨_, rfl, ?_⟩) | (refine ⟨_, _, rfl, rfl, ?_⟩) | (refine ⟨_, _, _, _, rfl, rfl, SqL.of (by assumption), (by rfl), ?_⟩) | (refine ⟨_, _, _, _, rfl, rfl, (by assumption), (by rfl), ?_⟩) | (refine ⟨_, _, _, _, rfl, rfl, SqL.of (by assumption), (by assumption), ?_⟩) | (refine ⟨_, _, rfl, .inl (SqL.of (by assumption)), ?_⟩) | (refine ⟨_, _, _, _, _, rfl, (by assumption), (by assumption), (by assumption), (by rfl), ?_⟩) | (refine ⟨_, _, _, _, rfl, (by assumption), (by assumption), (by assumption), (Nat.le_of_ble_eq_true rfl), ?_⟩) | (refine And.intro (by first | assumption | rfl | (show (0:Int) < _; omega) | (show CDiv _ _; exact ⟨by omega, by omega⟩) | (show CMul _ _; first | exact .inl ⟨by omega, by omega⟩ | exact .inr ⟨by omega, by omega⟩) | (show CPow _ _; exact ⟨by omega, by omega, by omega⟩) | (show (_ : Nat) ≤ sizeLine; exact Nat.le_of_ble_eq_true rfl)) ?_) ))
          refine ite2 (fun g => absurd g (by simp)) (fun _ => ?_)
          (repeat (first | (refine ⟨_, rfl, ?_⟩) | (refine ⟨_, _, rfl, rfl, ?_⟩) | (refine ⟨_, _, _, _, rfl, rfl, SqL.of (by assumption), (by rfl), ?_⟩) | (refine ⟨_, _, _, _, rfl, rfl, (by assumption), (by rfl), ?_⟩) | (refine ⟨_, _, _, _, rfl, rfl, SqL.of (by assumption), (by assumption), ?_⟩) | (refine ⟨_, _, rfl, .inl (SqL.of (by assumption)), ?_⟩) | (refine ⟨_, _, _, _, _, rfl, (by assumption), (by assumption), (by assumption), (by rfl), ?_⟩) | (refine ⟨_, _, _, _, rfl, (by assumption), (by assumption), (by assumption), (Nat.le_of_ble_eq_true rfl), ?_⟩) | (refine And.intro (by first | assumption | rfl | (show (0:Int) < _; omega) | (show CDiv _ _; exact ⟨by omega, by omega⟩) | (show CMul _ _; first | exact .inl ⟨by omega, by omega⟩ | exact .inr ⟨by omega, by omega⟩) | (show CPow _ _; exact ⟨by omega, by omega, by omega⟩) | (show (_ : Nat) ≤ sizeLine; exact Nat.le_of_ble_eq_true rfl)) ?_) ))
          refine eqT F (hs.same k8) ok' (ht.same k8) ok fun H9 k9 => ?_
          have k89 := k8.trans k9
          (repeat (first | (refine ⟨_, rfl, ?_⟩) | (refine ⟨_, _, rfl, rfl, ?_⟩) | (refine ⟨_, _, _, _, rfl, rfl, SqL.of (by assumption), (by rfl), ?_⟩) | (refine ⟨_, _, _, _, rfl, rfl, (by assumption), (by rfl), ?_⟩) | (refine ⟨_, _, _, _, rfl, rfl, SqL.of (by assumption), (by assumption), ?_⟩) | (refine ⟨_, _, rfl, .inl (SqL.of (by assumption)), ?_⟩) | (refine ⟨_, _, _, _, _, rfl, (by assumption), (by assumption), (by assumption), (by rfl), ?_⟩) | (refine ⟨_, _, _, _, rfl, (by assumption), (by assumption), (by assumption), (Nat.le_of_ble_eq_true rfl), ?_⟩) | (refine And.intro (by first | assumption | rfl | (show (0:Int) < _; omega) | (show CDiv _ _; exact ⟨by omega, by omega⟩) | (show CMul _ _; first | exact .inl ⟨by omega, by omega⟩ | exact .inr ⟨by omega, by omega⟩) | (show CPow _ _; exact ⟨by omega, by omega, by omega⟩) | (show (_ : Nat) ≤ sizeLine; exact Nat.le_of_ble_eq_true rfl)) ?_) ))
          refine ⟨_, _, (hb.same k89).dp, (ho.same k89).dp, b.shaped ok.sok, b'.shaped ok'.sok, ?_⟩
          have e2 : decide (row b' = row b) = PyData.eqv b.data b'.data := by rw [← row_dec ok ok']; exact decide_eq_decide.mpr ⟨Eq.symm, Eq.symm⟩
          rw [e2]
          (repeat (first | (refine ⟨_, rfl, ?_⟩) | (refine ⟨_, _, rfl, rfl, ?_⟩) | (refine ⟨_, _, _, _, rfl, rfl, SqL.of (by assumption), (by rfl), ?_⟩) | (refine ⟨_, _, _, _, rfl, rfl, (by assumption), (by rfl), ?_⟩) | (refine ⟨_, _, _, _, rfl, rfl, SqL.of (by assumption), (by assumption), ?_⟩) | (refine ⟨_, _, rfl, .inl (SqL.of (by assumption)), ?_⟩) | (refine ⟨_, _, _, _, _, rfl, (by assumption), (by assumption), (by assumption), (by rfl), ?_⟩) | (refine ⟨_, _, _, _, rfl, (by assumption), (by assumption), (by assumption), (Nat.le_of_ble_eq_true rfl), ?_⟩) | (refine And.intro (by first | assumption | rfl | (show (0:Int) < _; omega) | (show CDiv _ _; exact ⟨by omega, by omega⟩) | (show CMul _ _; first | exact .inl ⟨by omega, by omega⟩ | exact .inr ⟨by omega, by omega⟩) | (show CPow _ _; exact ⟨by omega, by omega, by omega⟩) | (show (_ : Nat) ≤ sizeLine; exact Nat.le_of_ble_eq_true rfl)) ?_) ))
          exact ite2 (fun g => absurd g (by simp)) (fun _ => ⟨rfl, k89⟩)
        · rintro _ H8 ⟨rfl, k8⟩
          replace hb := hb.same k8
          replace ht := ht.same k8
          replace pn := pn.same k8
          clear k8 hs ho
          refine ⟨fun σ' H' => σ' = [some (V.ref a), some (V.ref p), some (V.int (0 + i)), some vb, some vt, some vo, some vs, t7, t8, t9, t10, t11] ∧ Kp [] H8 H', ?_, ?_⟩
          · obtain ⟨xb, cb, kb, lb, rfl, hxb, _⟩ := id hb
            obtain ⟨xt, dxt, ct, kt, lt, rfl, hxt, _⟩ := id ht
            (repeat (first | (refine ⟨_, rfl, ?_⟩) | (refine ⟨_, _, rfl, rfl, ?_⟩) | (refine ⟨_, _, _, _, rfl, rfl, SqL.of (by assumption), (by rfl), ?_⟩) | (refine ⟨_, _, _, _, rfl, rfl, (by assumption), (by rfl), ?_⟩) | (refine ⟨_, _, _, _, rfl, rfl, SqL.of (by assumption), (by assumption), ?_⟩) | (refine ⟨_, _, rfl, .inl (SqL.of (by assumption)), ?_⟩) | (refine ⟨_, _, _, _, _, rfl, (by assumption), (by assumption), (by assumption), (by rfl), ?_⟩) | (refine ⟨_, _, _, _, rfl, (by assumption), (by assumption), (by assumption), (Nat.le_of_ble_eq_true rfl), ?_⟩) | (refine And.intro (by first | assumption | rfl | (show (0:Int) < _; omega) | (show CDiv _ _; exact ⟨by omega, by omega⟩) | (show CMul _ _; first | exact .inl ⟨by omega, by omega⟩ | exact .inr ⟨by omega, by omega⟩) | (show CPow _ _; exact ⟨by omega, by omega, by omega⟩) | (show (_ : Nat) ≤ sizeLine; exact Nat.le_of_ble_eq_true rfl)) ?_) ))
            refine ⟨xt, dxt, _, rfl, hxt, _, b, rfl, ht, ok, fun H9 k9 => ⟨_, rfl, ?_⟩⟩
            refine eqN (ht.same k9) ok (.base (.str _)) F.tStr F.fStr ?_
            refine ⟨_, rfl, iteF ?_⟩
            (repeat (first | (refine ⟨_, rfl, ?_⟩) | (refine ⟨_, _, rfl, rfl, ?_⟩) | (refine ⟨_, _, _, _, rfl, rfl, SqL.of (by assumption), (by rfl), ?_⟩) | (refine ⟨_, _, _, _, rfl, rfl, (by assumption), (by rfl), ?_⟩) | (refine ⟨_, _, _, _, rfl, rfl, SqL.of (by assumption), (by assumption), ?_⟩) | (refine ⟨_, _, rfl, .inl (SqL.of (by assumption)), ?_⟩) | (refine ⟨_, _, _, _, _, rfl, (by assumption), (by assumption), (by assumption), (by rfl), ?_⟩) | (refine ⟨_, _, _, _, rfl, (by assumption), (by assumption), (by assumption), (Nat.le_of_ble_eq_true rfl), ?_⟩) | (refine And.intro (by first | assumption | rfl | (show (0:Int) < _; omega) | (show CDiv _ _; exact ⟨by omega, by omega⟩) | (show CMul _ _; first | exact .inl ⟨by omega, by omega⟩ | exact .inr ⟨by omega, by omega⟩) | (show CPow _ _; exact ⟨by omega, by omega, by omega⟩) | (show (_ : Nat) ≤ sizeLine; exact Nat.le_of_ble_eq_true rfl)) ?_) ))
            refine ⟨xt, dxt, _, rfl, k9.same _ _ hxt, ⟨_, .base .non, F.fNon⟩, _, _, b, rfl, ht.same k9, ok, .inr ⟨_, .base .non, F.tNon, _, rfl, ?_⟩⟩
            refine ⟨_, rfl, iteF ?_⟩
            (repeat (first | (refine ⟨_, rfl, ?_⟩) | (refine ⟨_, _, rfl, rfl, ?_⟩) | (refine ⟨_, _, _, _, rfl, rfl, SqL.of (by assumption), (by rfl), ?_⟩) | (refine ⟨_, _, _, _, rfl, rfl, (by assumption), (by rfl), ?_⟩) | (refine ⟨_, _, _, _, rfl, rfl, SqL.of (by assumption), (by assumption), ?_⟩) | (refine ⟨_, _, rfl, .inl (SqL.of (by assumption)), ?_⟩) | (refine ⟨_, _, _, _, _, rfl, (by assumption), (by assumption), (by assumption), (by rfl), ?_⟩) | (refine ⟨_, _, _, _, rfl, (by assumption), (by assumption), (by assumption), (Nat.le_of_ble_eq_true rfl), ?_⟩) | (refine And.intro (by first | assumption | rfl | (show (0:Int) < _; omega) | (show CDiv _ _; exact ⟨by omega, by omega⟩) | (show CMul _ _; first | exact .inl ⟨by omega, by omega⟩ | exact .inr ⟨by omega, by omega⟩) | (show CPow _ _; exact ⟨by omega, by omega, by omega⟩) | (show (_ : Nat) ≤ sizeLine; exact Nat.le_of_ble_eq_true rfl)) ?_) ))
            refine ⟨xt, dxt, _, rfl, k9.same _ _ hxt, ⟨_, .base (.lst (k9.same _ _ hxb)), F.fLst⟩, _, _, b, rfl, ht.same k9, ok, .inr ⟨_, .base (.lst (k9.same _ _ hxb)), F.tLst, _, rfl, ?_⟩⟩
            refine ⟨_, rfl, iteF ?_⟩
            (repeat (first | (refine ⟨_, rfl, ?_⟩) | (refine ⟨_, _, rfl, rfl, ?_⟩) | (refine ⟨_, _, _, _, rfl, rfl, SqL.of (by assumption), (by rfl), ?_⟩) | (refine ⟨_, _, _, _, rfl, rfl, (by assumption), (by rfl), ?_⟩) | (refine ⟨_, _, _, _, rfl, rfl, SqL.of (by assumption), (by assumption), ?_⟩) | (refine ⟨_, _, rfl, .inl (SqL.of (by assumption)), ?_⟩) | (refine ⟨_, _, _, _, _, rfl, (by assumption), (by assumption), (by assumption), (by rfl), ?_⟩) | (refine ⟨_, _, _, _, rfl, (by assumption), (by assumption), (by assumption), (Nat.le_of_ble_eq_true rfl), ?_⟩) | (refine And.intro (by first | assumption | rfl | (show (0:Int) < _; omega) | (show CDiv _ _; exact ⟨by omega, by omega⟩) | (show CMul _ _; first | exact .inl ⟨by omega, by omega⟩ | exact .inr ⟨by omega, by omega⟩) | (show CPow _ _; exact ⟨by omega, by omega, by omega⟩) | (show (_ : Nat) ≤ sizeLine; exact Nat.le_of_ble_eq_true rfl)) ?_) ))
            refine ⟨xt, dxt, _, rfl, k9.same _ _ hxt, _, b, rfl, ht.same k9, ok, fun HA kA => ⟨_, rfl, ?_⟩⟩
            refine eqN ((ht.same k9).same kA) ok (.base (.str _)) F.tStr F.fStr ?_
            exact ⟨_, rfl, iteF ⟨rfl, k9.trans kA⟩⟩
          · rintro _ H9 ⟨rfl, k9⟩
            replace hb := hb.same k9
            replace ht := ht.same k9
            replace pn := pn.same k9
            clear k9
            obtain ⟨xb, cb, kb, lb, rfl, hxb, hcb, hkb, hlb⟩ := id hb
            (repeat (first | (refine ⟨_, rfl, ?_⟩) | (refine ⟨_, _, rfl, rfl, ?_⟩) | (refine ⟨_, _, _, _, rfl, rfl, SqL.of (by assumption), (by rfl), ?_⟩) | (refine ⟨_, _, _, _, rfl, rfl, (by assumption), (by rfl), ?_⟩) | (refine ⟨_, _, _, _, rfl, rfl, SqL.of (by assumption), (by assumption), ?_⟩) | (refine ⟨_, _, rfl, .inl (SqL.of (by assumption)), ?_⟩) | (refine ⟨_, _, _, _, _, rfl, (by assumption), (by assumption), (by assumption), (by rfl), ?_⟩) | (refine ⟨_, _, _, _, rfl, (by assumption), (by assumption), (by assumption), (Nat.le_of_ble_eq_true rfl), ?_⟩) | (refine And.intro (by first | assumption | rfl | (show (0:Int) < _; omega) | (show CDiv _ _; exact ⟨by omega, by omega⟩) | (show CMul _ _; first | exact .inl ⟨by omega, by omega⟩ | exact .inr ⟨by omega, by omega⟩) | (show CPow _ _; exact ⟨by omega, by omega, by omega⟩) | (show (_ : Nat) ≤ sizeLine; exact Nat.le_of_ble_eq_true rfl)) ?_) ))
            refine ⟨p, c, cb, _, _, _, b.cols, rfl, pn, by omega, hcb, by have := ok.cl; omega, by omega, by omega, by omega, by omega, fun r ys HA hA ndA subA loA hiA leA kA pn => ?_⟩
            replace hb := hb.kq kA
            replace ht := ht.kq kA
            replace hxb := kA.keep _ _ rfl hxb
            replace hcb := hcb.kq kA
            clear kA
            refine ⟨_, rfl, _, rfl, _, _, _, _, rfl, rfl, SqL.of hxb, rfl, ?_⟩
            refine ⟨p, c, cb, _, b.cols, rfl, pn, by omega, hcb, ok.cols, fun vl l HB hlB soB okB kB pn => ?_⟩
            replace hb := hb.kq kB
            replace ht := ht.kq kB
            replace hA := hA.kq kB
            clear kB hxb hcb hkb hlb
            have kp : Kp [] HB HB := Kp.refl _ _
            have okK : BOk { b with key := ys } := ok.setKey (by omega) (ndA ok.cu) subA
            refine ⟨_, rfl, _, rfl, ?_⟩
            refine ⟨_, r, b, ys, rfl, ht, hA, by omega, okK, fun vk HC kC hk => ?_⟩
            obtain ⟨xb', cb, kb, lb, e, hxb, hcb, hkb, hlb⟩ := hb.same kC
            cases e
            have hAC := StrL.same kC hA
            have kpC : Kp [] HB HC := kC
            clear kp
            refine ⟨_, rfl, _, rfl, _, _, rfl, SqL.of hxb, ?_⟩
            (intro q1 hq1; generalize eH : upd HC q1 _ = HD; have k12 : Kp [] HC HD := eH ▸ Kp.new hq1; replace hq1 := (congrFun eH.symm q1).trans upd_same; clear eH; replace hxb := k12.same _ _ hxb; replace hcb := StrL.same k12 hcb; replace hlb := LieAt.same k12 hlb; replace hAC := StrL.same k12 hAC; replace hk := TabAt.same k12 hk; replace kpC := kpC.trans (k12.mono (fun _ z => nomatch z)); clear k12)
            replace hq1 : HD q1 = some (.lst [.str b.name, .ref cb]) := hq1
            refine ⟨_, rfl, Nat.le_of_ble_eq_true rfl, ?_⟩
            (intro q2 hq2; generalize eH : upd HD q2 _ = HE; have k12 : Kp [] HD HE := eH ▸ Kp.new hq2; replace hq2 := (congrFun eH.symm q2).trans upd_same; clear eH; replace hxb := k12.same _ _ hxb; replace hcb := StrL.same k12 hcb; replace hlb := LieAt.same k12 hlb; replace hAC := StrL.same k12 hAC; replace hk := TabAt.same k12 hk; replace hq1 := k12.same _ _ hq1; replace kpC := kpC.trans (k12.mono (fun _ z => nomatch z)); clear k12)
            refine ⟨_, _, _, _, rfl, rfl, hq1, hq2, Nat.le_of_ble_eq_true rfl, ?_⟩
            (intro q3 hq3; generalize eH : upd HE q3 _ = HF; have k12 : Kp [] HE HF := eH ▸ Kp.new hq3; replace hq3 := (congrFun eH.symm q3).trans upd_same; clear eH; replace hxb := k12.same _ _ hxb; replace hcb := StrL.same k12 hcb; replace hlb := LieAt.same k12 hlb; replace hAC := StrL.same k12 hAC; replace hk := TabAt.same k12 hk; replace kpC := kpC.trans (k12.mono (fun _ z => nomatch z)); clear k12)
            refine ⟨_, rfl, _, rfl, _, _, rfl, SqL.of hxb, ?_⟩
            (intro q4 hq4; generalize eH : upd HF q4 _ = HG; have k12 : Kp [] HF HG := eH ▸ Kp.new hq4; replace hq4 := (congrFun eH.symm q4).trans upd_same; clear eH; replace hcb := StrL.same k12 hcb; replace hlb := LieAt.same k12 hlb; replace hAC := StrL.same k12 hAC; replace hk := TabAt.same k12 hk; replace hq3 := k12.same _ _ hq3; replace kpC := kpC.trans (k12.mono (fun _ z => nomatch z)); clear k12)
            replace hq4 : HG q4 = some (.lst [lb]) := hq4
            refine ⟨_, _, _, _, rfl, rfl, hq3, hq4, Nat.le_of_ble_eq_true rfl, ?_⟩
            (intro q5 hq5; generalize eH : upd HG q5 _ = HI; have k12 : Kp [] HG HI := eH ▸ Kp.new hq5; replace hq5 := (congrFun eH.symm q5).trans upd_same; clear eH; replace hcb := StrL.same k12 hcb; replace hlb := LieAt.same k12 hlb; replace hAC := StrL.same k12 hAC; replace hk := TabAt.same k12 hk; replace kpC := kpC.trans (k12.mono (fun _ z => nomatch z)); clear k12)
            refine ⟨_, _, { b with key := ys }, rfl, hk, ⟨q5, cb, r, lb, rfl, hq5, hcb, hAC, hlb⟩, okK, fun HJ kJ => ⟨_, rfl, iteF ?_⟩⟩
            replace kpC := kpC.trans kJ
            replace hb := hb.same kpC
            replace ht := ht.same kpC
            replace hlB := hlB.same kpC
            replace pn := pn.same kpC
            clear hk hcb hkb hlb hxb hAC hq5 hq3 hq4 hq1 hq2 kJ kC kpC hA
            have okL : BOk { b with lie := l } := ok.setLie okB soB
            refine ⟨fun σ' H' => σ' = [some (V.ref a), some (V.ref p), some (V.int (0 + i)), some (V.ref xb), some vt, some vo, some vs, some (V.ref r), some vl, t9, t10, t11] ∧ Kp [] HJ H', ?_, ?_⟩
            · have ht0 := ht
              obtain ⟨xt, dxt, ct, kt, lt, rfl, hxt, _⟩ := ht0
              refine ⟨_, rfl, ?_⟩
              refine ⟨xt, dxt, _, rfl, hxt, rfl, ?_⟩
              refine ⟨_, rfl, ?_⟩
              refine ⟨_, _, b, l, rfl, ht, hlB, okL, fun vw HK kK hw => ?_⟩
              obtain ⟨xb', cb, kb, lb, e, hxb, hcb, hkb, hlb⟩ := hb.same kK
              cases e
              have hl2 := hlB.same kK
              have kp : Kp [] HJ HK := kK
              refine ⟨_, rfl, _, rfl, _, _, rfl, SqL.of hxb, ?_⟩
              (intro q1 hq1; generalize eH : upd HK q1 _ = HL; have k12 : Kp [] HK HL := eH ▸ Kp.new hq1; replace hq1 := (congrFun eH.symm q1).trans upd_same; clear eH; replace hcb := StrL.same k12 hcb; replace hkb := StrL.same k12 hkb; replace hl2 := LieAt.same k12 hl2; replace hw := TabAt.same k12 hw; replace kp := kp.trans (k12.mono (fun _ z => nomatch z)); clear k12)
              replace hq1 : HL q1 = some (.lst [.str b.name, .ref cb, .ref kb]) := hq1
              refine ⟨_, rfl, Nat.le_of_ble_eq_true rfl, ?_⟩
              (intro q2 hq2; generalize eH : upd HL q2 _ = HM; have k12 : Kp [] HL HM := eH ▸ Kp.new hq2; replace hq2 := (congrFun eH.symm q2).trans upd_same; clear eH; replace hcb := StrL.same k12 hcb; replace hkb := StrL.same k12 hkb; replace hl2 := LieAt.same k12 hl2; replace hw := TabAt.same k12 hw; replace hq1 := k12.same _ _ hq1; replace kp := kp.trans (k12.mono (fun _ z => nomatch z)); clear k12)
              refine ⟨_, _, _, _, rfl, rfl, hq1, hq2, Nat.le_of_ble_eq_true rfl, ?_⟩
              (intro q3 hq3; generalize eH : upd HM q3 _ = HN; have k12 : Kp [] HM HN := eH ▸ Kp.new hq3; replace hq3 := (congrFun eH.symm q3).trans upd_same; clear eH; replace hcb := StrL.same k12 hcb; replace hkb := StrL.same k12 hkb; replace hl2 := LieAt.same k12 hl2; replace hw := TabAt.same k12 hw; replace kp := kp.trans (k12.mono (fun _ z => nomatch z)); clear k12)
              refine ⟨_, _, { b with lie := l }, rfl, hw, ⟨q3, cb, kb, vl, rfl, hq3, hcb, hkb, hl2⟩, okL, fun HO kO => ⟨_, rfl, iteF ?_⟩⟩
              replace kp := kp.trans kO
              refine ⟨_, rfl, _, rfl, ?_⟩
              exact ⟨_, _, b, rfl, ht.same kp, hb.same kp, ok, fun HR kR => ⟨_, rfl, iteF ⟨rfl, kp.trans kR⟩⟩⟩
            · rintro _ HK ⟨rfl, kK⟩
              replace hb := hb.same kK
              replace ht := ht.same kK
              replace pn := pn.same kK
              clear kK hlB
              obtain ⟨xb', cb, kb, lb, e, hxb, hcb, hkb, hlb⟩ := id hb
              cases e
              have kp : Kp [] HK HK := Kp.refl _ _
              refine ⟨_, rfl, _, _, _, _, rfl, rfl, SqL.of hxb, rfl, ?_⟩
              refine ⟨_, _, rfl, .inl (SqL.of hcb), ?_⟩
              (intro q1 hq1; have f1 := id hq1; generalize eH : upd HK q1 _ = HL; have k12 : Kp [] HK HL := eH ▸ Kp.new hq1; replace hq1 := (congrFun eH.symm q1).trans upd_same; clear eH; replace hxb := k12.same _ _ hxb; replace hkb := StrL.same k12 hkb; replace hlb := LieAt.same k12 hlb; replace kp := kp.trans (k12.mono (fun _ z => nomatch z)); clear k12)
              refine ⟨_, rfl, _, _, _, _, rfl, rfl, SqL.of hxb, rfl, ?_⟩
              refine ⟨_, _, rfl, .inl (SqL.of hkb), ?_⟩
              (intro q2 hq2; have f2 := kp.dom q2 hq2; have n12 := ne_of_none hq1 hq2; generalize eH : upd HL q2 _ = HM; have k12 : Kp [] HL HM := eH ▸ Kp.new hq2; replace hq2 := (congrFun eH.symm q2).trans upd_same; clear eH; replace hxb := k12.same _ _ hxb; replace hlb := LieAt.same k12 hlb; replace hq1 := k12.same _ _ hq1; replace kp := kp.trans (k12.mono (fun _ z => nomatch z)); clear k12)
              refine ⟨_, rfl, _, _, _, _, rfl, rfl, SqL.of hxb, rfl, _, rfl, _, rfl, _, rfl, _, _, _, _, rfl, rfl, SqL.of hxb, rfl, rfl, rfl, ?_⟩
              intro x dx n1 n2 ne
              have k12 : Kp [] HM (upd (upd HM dx (.own x)) x (.ins C dx [])) := Kp.made n1 n2
              refine ⟨x, dx, q1, q2, lb, b, rfl, upd_same, StrL.same k12 hq1, .inl (SqL.of (k12.same _ _ hq2)), hlb.same k12, ok, fun HN tn kx => ⟨rfl, ?_⟩⟩
              have kN : Kp [] HM HN := Kp.newOf kx k12 n1
              obtain ⟨dx', c3, k3, l3, hx3, hc3, hk3, hl3, fc, fk⟩ := tn
              have a1 : c3 ≠ q1 := (ne_of_none (k12.same _ _ hq1) fc).symm
              have a2 : c3 ≠ q2 := (ne_of_none (k12.same _ _ hq2) fc).symm
              have a3 : k3 ≠ q1 := (ne_of_none (k12.same _ _ hq1) fk).symm
              have a4 : k3 ≠ q2 := (ne_of_none (k12.same _ _ hq2) fk).symm
              replace hq1 := kN.same _ _ hq1
              replace hq2 := kN.same _ _ hq2
              replace kp := kp.trans kN
              clear kx k12 kN
              have l1 : (b.cols.map V.str).length < sizeLine := by rw [List.length_map]; exact Nat.lt_of_le_of_lt ok.cl.2 (by decide)
              have l2 : (b.key.map V.str).length < sizeLine := by rw [List.length_map]; exact Nat.lt_of_le_of_lt ok.kl (by decide)
              refine ⟨_, rfl, .inl ⟨rfl, _, SqL.of hq1⟩, _, _, _, rfl, rfl, hq1, l1, ?_⟩
              generalize eP : upd HN q1 _ = HP
              have hq2P : HP q2 = some (.lst (b.key.map V.str)) := by rw [← eP, upd_ne n12.symm]; exact hq2
              have kpP : Kp [] HK HP := eP ▸ Kp.putNew' kp f1
              have hx3P : HP x = some (.ins C dx' [("name", .str b.name), ("columns", .ref c3), ("key", .ref k3), ("lies", l3)]) := by rw [← eP]; exact K14.putL hq1 (fun _ z => nomatch z) hx3
              have hc3P : StrL HP c3 b.cols := by rw [← eP, StrL, upd_ne a1]; exact hc3
              have hk3P : StrL HP k3 b.key := by rw [← eP, StrL, upd_ne a3]; exact hk3
              have hl3P : LieAt K HP l3 b.lie := eP ▸ LieAt.putL hq1 hl3
              clear eP hq1 hq2 kp hx3 hc3 hk3 hl3
              refine ⟨_, rfl, .inl ⟨rfl, _, SqL.of hq2P⟩, _, _, _, rfl, rfl, hq2P, l2, ?_⟩
              generalize eR : upd HP q2 _ = HR
              have kpR : Kp [] HK HR := eR ▸ Kp.putNew' kpP f2
              have hx3R : HR x = some (.ins C dx' [("name", .str b.name), ("columns", .ref c3), ("key", .ref k3), ("lies", l3)]) := by rw [← eR]; exact K14.putL hq2P (fun _ z => nomatch z) hx3P
              have hc3R : StrL HR c3 b.cols := by rw [← eR, StrL, upd_ne a2]; exact hc3P
              have hk3R : StrL HR k3 b.key := by rw [← eR, StrL, upd_ne a4]; exact hk3P
              have hl3R : LieAt K HR l3 b.lie := eR ▸ LieAt.putL hq2P hl3P
              clear eR hq2P kpP hx3P hc3P hk3P hl3P
              have h3 : TabAt K C HR (.ref x) b := ⟨x, dx', c3, k3, l3, rfl, hx3R, hc3R, hk3R, hl3R⟩
              replace hb := hb.same kpR
              replace ht := ht.same kpR
              replace pn := pn.same kpR
              refine ⟨_, rfl, _, rfl, ?_⟩
              refine ⟨_, _, b, rfl, h3, hb, ok, fun HS kS => ⟨_, rfl, iteF ?_⟩⟩
              refine ⟨_, rfl, _, rfl, ?_⟩
              refine ⟨x, dx', _, rfl, kS.same _ _ hx3R, ⟨_, F.ty (ht.same kS), F.fSelf⟩, _, _, b, rfl, h3.same kS, ok, .inl ⟨b, ht.same kS, ok, fun HT kT => ⟨_, rfl, _, rfl, ?_⟩⟩⟩
              refine ite2 (fun g => absurd g (by simp)) (fun _ => ?_)
              exact ⟨_, _, _, _, _, _, _, _, _, _, rfl, ((pn.same kS).same kT).le (by omega)⟩
    · rintro _ H2 ⟨t2, t3, t4, t5, t6, t7, t8, t9, t10, t11, rfl, pen⟩
      obtain ⟨mc, u, g1, g2⟩ := G.ex
      (repeat (first | (refine ⟨_, rfl, ?_⟩) | (refine ⟨_, _, rfl, rfl, ?_⟩) | (refine ⟨_, _, _, _, rfl, rfl, SqL.of (by assumption), (by rfl), ?_⟩) | (refine ⟨_, _, _, _, rfl, rfl, (by assumption), (by rfl), ?_⟩) | (refine ⟨_, _, _, _, rfl, rfl, SqL.of (by assumption), (by assumption), ?_⟩) | (refine ⟨_, _, rfl, .inl (SqL.of (by assumption)), ?_⟩) | (refine ⟨_, _, _, _, _, rfl, (by assumption), (by assumption), (by assumption), (by rfl), ?_⟩) | (refine ⟨_, _, _, _, rfl, (by assumption), (by assumption), (by assumption), (Nat.le_of_ble_eq_true rfl), ?_⟩) | (refine And.intro (by first | assumption | rfl | (show (0:Int) < _; omega) | (show CDiv _ _; exact ⟨by omega, by omega⟩) | (show CMul _ _; first | exact .inl ⟨by omega, by omega⟩ | exact .inr ⟨by omega, by omega⟩) | (show CPow _ _; exact ⟨by omega, by omega, by omega⟩) | (show (_ : Nat) ≤ sizeLine; exact Nat.le_of_ble_eq_true rfl)) ?_) ))
      refine ⟨C, mc, _, u, rfl, g1, g2, ?_⟩
      (repeat (first | (refine ⟨_, rfl, ?_⟩) | (refine ⟨_, _, rfl, rfl, ?_⟩) | (refine ⟨_, _, _, _, rfl, rfl, SqL.of (by assumption), (by rfl), ?_⟩) | (refine ⟨_, _, _, _, rfl, rfl, (by assumption), (by rfl), ?_⟩) | (refine ⟨_, _, _, _, rfl, rfl, SqL.of (by assumption), (by assumption), ?_⟩) | (refine ⟨_, _, rfl, .inl (SqL.of (by assumption)), ?_⟩) | (refine ⟨_, _, _, _, _, rfl, (by assumption), (by assumption), (by assumption), (by rfl), ?_⟩) | (refine ⟨_, _, _, _, rfl, (by assumption), (by assumption), (by assumption), (Nat.le_of_ble_eq_true rfl), ?_⟩) | (refine And.intro (by first | assumption | rfl | (show (0:Int) < _; omega) | (show CDiv _ _; exact ⟨by omega, by omega⟩) | (show CMul _ _; first | exact .inl ⟨by omega, by omega⟩ | exact .inr ⟨by omega, by omega⟩) | (show CPow _ _; exact ⟨by omega, by omega, by omega⟩) | (show (_ : Nat) ≤ sizeLine; exact Nat.le_of_ble_eq_true rfl)) ?_) ))
      exact k _
end
end K14

namespace K14
open PySem L2 GB G0 Tb TL
theorem kit_self {K : PySem.W.Frag} {C : Addr} : PySem.W.kitOne K (.ref C) (.ref C) = some true := by
  unfold PySem.W.kitOne
  rw [if_pos (beq_self_eq_true _)]
theorem kit_no {K : PySem.W.Frag} {C : Addr} {t : Value} (h1 : PySem.W.isClsIn K C = true) (h2 : PySem.W.typeIn K (.ref C) = some (.type "type")) (h3 : PySem.W.subIn K t (.ref C) = some false) (ne : (t == .ref C) = false) : PySem.W.kitOne K t (.ref C) = some false := by
  unfold PySem.W.kitOne
  rw [if_neg (by rw [ne]; simp)]
  show (if ((PySem.W.clsIn K C).isSome && PySem.W.typeIn K (.ref C) == some (.type "type")) = true then PySem.W.subIn K t (.ref C) else none) = some false
  have h1' : (PySem.W.clsIn K C).isSome = true := h1
  rw [if_pos (by rw [h1', h2]; simp), h3]
theorem all_mk {P : Program} {w : World} {K : PySem.W.Frag} {h base : Heap} {mg : Str → Option Value} (X : K.In h) (G : h.Ns mainGlobals mg) {CT fN fU fIL fxpen fxdraw fxpick fxsome fxnames fxlie fxbare fxmade fxrowof fxis fxother fxkeyed fLaw fWL fWK fEQ fST fI DI : Addr} {odN anN odU anU odIL anIL odxpen anxpen odxdraw anxdraw odxpick anxpick odxsome anxsome odxnames anxnames odxlie anxlie odxbare anxbare odxmade anxmade odxrowof anxrowof odxis anxis odxother anxother odxkeyed anxkeyed odLaw anLaw odWL anWL odWK anWK odEQ anEQ odST anST odI anI : Option Addr} {slN slU slIL slxpen slxdraw slxpick slxsome slxnames slxlie slxbare slxmade slxrowof slxis slxother slxkeyed slLaw slWL slWK slEQ slST slI : Array (Option Value)} {ocN kVN dcN pmN cdN ctN ocU kVU dcU pmU cdU ctU ocIL kVIL dcIL pmIL cdIL ctIL ocxpen kVxpen dcxpen pmxpen cdxpen ctxpen ocxdraw kVxdraw dcxdraw pmxdraw cdxdraw ctxdraw ocxpick kVxpick dcxpick pmxpick cdxpick ctxpick ocxsome kVxsome dcxsome pmxsome cdxsome ctxsome ocxnames kVxnames dcxnames pmxnames cdxnames ctxnames ocxlie kVxlie dcxlie pmxlie cdxlie ctxlie ocxbare kVxbare dcxbare pmxbare cdxbare ctxbare ocxmade kVxmade dcxmade pmxmade cdxmade ctxmade ocxrowof kVxrowof dcxrowof pmxrowof cdxrowof ctxrowof ocxis kVxis dcxis pmxis cdxis ctxis ocxother kVxother dcxother pmxother cdxother ctxother ocxkeyed kVxkeyed dcxkeyed pmxkeyed cdxkeyed ctxkeyed ocLaw kVLaw dcLaw pmLaw cdLaw ctLaw ocWL kVWL dcWL pmWL cdWL ctWL ocWK kVWK dcWK pmWK cdWK ctWK ocEQ kVEQ dcEQ pmEQ cdEQ ctEQ ocST kVST dcST pmST cdST ctST ocI dcI pmI cdI ctI : Value} {aW aP pa pb pc dk dl : Addr} {od_aW od_aP od_pa od_pb od_pc od_dk od_dl : Option Addr} {it_aW it_pa it_pb it_pc it_dk it_dl : Array Value} {nn_aW nn_aP nn_pa nn_pb nn_pc nn_dk nn_dl : Nat} {sl_aW sl_aP sl_pa sl_pb sl_pc sl_dk sl_dl : Array (Option Value)} {tF tL tS tR tM : Tok}
    (aCT : PySem.W.nsIn K mainGlobals "Table" = some (some (.ref CT))) (pgT : PySem.W.plainGet K CT Str.empty = true) (hdT : PySem.W.hasDictIn K CT = true) (poT : PySem.W.plainOver K CT = true) (saT : PySem.W.findIn K (.ref CT) "__setattr__" = some (some (.builtin "object.__setattr__"))) (mkT : PySem.W.makesIn K CT = true) (kcT : PySem.W.keepIn K (.ref CT) = true)
    (aN : PySem.W.nsIn K mainGlobals "is_name" = some (some (.ref fN)))
    (lN : K.lookup fN = some ⟨ocN, odN, .func (PySem.W.fnOf "is_name" "is_name" (defArgs s_is_name) (defBody s_is_name) (defScope s_is_name) .none kVN dcN pmN anN cdN ctN), slN⟩) (cqN : PySem.W.codeIn K cdN "is_name" = true) (kN : PySem.W.keepIn K (.ref fN) = true)
    (aU : PySem.W.nsIn K mainGlobals "is_unlike" = some (some (.ref fU)))
    (lU : K.lookup fU = some ⟨ocU, odU, .func (PySem.W.fnOf "is_unlike" "is_unlike" (defArgs s_is_unlike) (defBody s_is_unlike) (defScope s_is_unlike) .none kVU dcU pmU anU cdU ctU), slU⟩) (cqU : PySem.W.codeIn K cdU "is_unlike" = true) (kU : PySem.W.keepIn K (.ref fU) = true)
    (aIL : PySem.W.nsIn K mainGlobals "is_lie" = some (some (.ref fIL)))
    (lIL : K.lookup fIL = some ⟨ocIL, odIL, .func (PySem.W.fnOf "is_lie" "is_lie" (defArgs s_is_lie) (defBody s_is_lie) (defScope s_is_lie) .none kVIL dcIL pmIL anIL cdIL ctIL), slIL⟩) (cqIL : PySem.W.codeIn K cdIL "is_lie" = true) (kIL : PySem.W.keepIn K (.ref fIL) = true)
    (axpen : PySem.W.nsIn K mainGlobals "_law_pen" = some (some (.ref fxpen)))
    (lxpen : K.lookup fxpen = some ⟨ocxpen, odxpen, .func (PySem.W.fnOf "_law_pen" "_law_pen" (defArgs s_law_pen) (defBody s_law_pen) (defScope s_law_pen) .none kVxpen dcxpen pmxpen anxpen cdxpen ctxpen), slxpen⟩) (cqxpen : PySem.W.codeIn K cdxpen "_law_pen" = true) (kxpen : PySem.W.keepIn K (.ref fxpen) = true)
    (axdraw : PySem.W.nsIn K mainGlobals "_law_draw" = some (some (.ref fxdraw)))
    (lxdraw : K.lookup fxdraw = some ⟨ocxdraw, odxdraw, .func (PySem.W.fnOf "_law_draw" "_law_draw" (defArgs s_law_draw) (defBody s_law_draw) (defScope s_law_draw) .none kVxdraw dcxdraw pmxdraw anxdraw cdxdraw ctxdraw), slxdraw⟩) (cqxdraw : PySem.W.codeIn K cdxdraw "_law_draw" = true) (kxdraw : PySem.W.keepIn K (.ref fxdraw) = true)
    (axpick : PySem.W.nsIn K mainGlobals "_law_pick" = some (some (.ref fxpick)))
    (lxpick : K.lookup fxpick = some ⟨ocxpick, odxpick, .func (PySem.W.fnOf "_law_pick" "_law_pick" (defArgs s_law_pick) (defBody s_law_pick) (defScope s_law_pick) .none kVxpick dcxpick pmxpick anxpick cdxpick ctxpick), slxpick⟩) (cqxpick : PySem.W.codeIn K cdxpick "_law_pick" = true) (kxpick : PySem.W.keepIn K (.ref fxpick) = true)
    (axsome : PySem.W.nsIn K mainGlobals "_law_some" = some (some (.ref fxsome)))
    (lxsome : K.lookup fxsome = some ⟨ocxsome, odxsome, .func (PySem.W.fnOf "_law_some" "_law_some" (defArgs s_law_some) (defBody s_law_some) (defScope s_law_some) .none kVxsome dcxsome pmxsome anxsome cdxsome ctxsome), slxsome⟩) (cqxsome : PySem.W.codeIn K cdxsome "_law_some" = true) (kxsome : PySem.W.keepIn K (.ref fxsome) = true)
    (axnames : PySem.W.nsIn K mainGlobals "_law_names" = some (some (.ref fxnames)))
    (lxnames : K.lookup fxnames = some ⟨ocxnames, odxnames, .func (PySem.W.fnOf "_law_names" "_law_names" (defArgs s_law_names) (defBody s_law_names) (defScope s_law_names) .none kVxnames dcxnames pmxnames anxnames cdxnames ctxnames), slxnames⟩) (cqxnames : PySem.W.codeIn K cdxnames "_law_names" = true) (kxnames : PySem.W.keepIn K (.ref fxnames) = true)
    (axlie : PySem.W.nsIn K mainGlobals "_law_lie" = some (some (.ref fxlie)))
    (lxlie : K.lookup fxlie = some ⟨ocxlie, odxlie, .func (PySem.W.fnOf "_law_lie" "_law_lie" (defArgs s_law_lie) (defBody s_law_lie) (defScope s_law_lie) .none kVxlie dcxlie pmxlie anxlie cdxlie ctxlie), slxlie⟩) (cqxlie : PySem.W.codeIn K cdxlie "_law_lie" = true) (kxlie : PySem.W.keepIn K (.ref fxlie) = true)
    (axbare : PySem.W.nsIn K mainGlobals "_law_bare" = some (some (.ref fxbare)))
    (lxbare : K.lookup fxbare = some ⟨ocxbare, odxbare, .func (PySem.W.fnOf "_law_bare" "_law_bare" (defArgs s_law_bare) (defBody s_law_bare) (defScope s_law_bare) .none kVxbare dcxbare pmxbare anxbare cdxbare ctxbare), slxbare⟩) (cqxbare : PySem.W.codeIn K cdxbare "_law_bare" = true) (kxbare : PySem.W.keepIn K (.ref fxbare) = true)
    (axmade : PySem.W.nsIn K mainGlobals "_law_made" = some (some (.ref fxmade)))
    (lxmade : K.lookup fxmade = some ⟨ocxmade, odxmade, .func (PySem.W.fnOf "_law_made" "_law_made" (defArgs s_law_made) (defBody s_law_made) (defScope s_law_made) .none kVxmade dcxmade pmxmade anxmade cdxmade ctxmade), slxmade⟩) (cqxmade : PySem.W.codeIn K cdxmade "_law_made" = true) (kxmade : PySem.W.keepIn K (.ref fxmade) = true)
    (axrowof : PySem.W.nsIn K mainGlobals "_law_row_of" = some (some (.ref fxrowof)))
    (lxrowof : K.lookup fxrowof = some ⟨ocxrowof, odxrowof, .func (PySem.W.fnOf "_law_row_of" "_law_row_of" (defArgs s_law_row_of) (defBody s_law_row_of) (defScope s_law_row_of) .none kVxrowof dcxrowof pmxrowof anxrowof cdxrowof ctxrowof), slxrowof⟩) (cqxrowof : PySem.W.codeIn K cdxrowof "_law_row_of" = true) (kxrowof : PySem.W.keepIn K (.ref fxrowof) = true)
    (axis : PySem.W.nsIn K mainGlobals "_law_is" = some (some (.ref fxis)))
    (lxis : K.lookup fxis = some ⟨ocxis, odxis, .func (PySem.W.fnOf "_law_is" "_law_is" (defArgs s_law_is) (defBody s_law_is) (defScope s_law_is) .none kVxis dcxis pmxis anxis cdxis ctxis), slxis⟩) (cqxis : PySem.W.codeIn K cdxis "_law_is" = true) (kxis : PySem.W.keepIn K (.ref fxis) = true)
    (axother : PySem.W.nsIn K mainGlobals "_law_other" = some (some (.ref fxother)))
    (lxother : K.lookup fxother = some ⟨ocxother, odxother, .func (PySem.W.fnOf "_law_other" "_law_other" (defArgs s_law_other) (defBody s_law_other) (defScope s_law_other) .none kVxother dcxother pmxother anxother cdxother ctxother), slxother⟩) (cqxother : PySem.W.codeIn K cdxother "_law_other" = true) (kxother : PySem.W.keepIn K (.ref fxother) = true)
    (axkeyed : PySem.W.nsIn K mainGlobals "_law_keyed" = some (some (.ref fxkeyed)))
    (lxkeyed : K.lookup fxkeyed = some ⟨ocxkeyed, odxkeyed, .func (PySem.W.fnOf "_law_keyed" "_law_keyed" (defArgs s_law_keyed) (defBody s_law_keyed) (defScope s_law_keyed) .none kVxkeyed dcxkeyed pmxkeyed anxkeyed cdxkeyed ctxkeyed), slxkeyed⟩) (cqxkeyed : PySem.W.codeIn K cdxkeyed "_law_keyed" = true) (kxkeyed : PySem.W.keepIn K (.ref fxkeyed) = true)
    (aLaw : PySem.W.nsIn K mainGlobals "law" = some (some (.ref fLaw)))
    (lLaw : K.lookup fLaw = some ⟨ocLaw, odLaw, .func (PySem.W.fnOf "law" "law" (defArgs s_law) (defBody s_law) (defScope s_law) .none kVLaw dcLaw pmLaw anLaw cdLaw ctLaw), slLaw⟩) (cqLaw : PySem.W.codeIn K cdLaw "law" = true) (kLaw : PySem.W.keepIn K (.ref fLaw) = true)
    (aWL : PySem.W.findIn K (.ref CT) "with_lie" = some (some (.ref fWL))) (iWL : PySem.W.isFn K (.ref fWL) = true)
    (lWL : K.lookup fWL = some ⟨ocWL, odWL, .func (PySem.W.fnOf "with_lie" "Table.with_lie" (defArgs s_Table_with_lie) (defBody s_Table_with_lie) (defScope s_Table_with_lie) .none kVWL dcWL pmWL anWL cdWL ctWL), slWL⟩) (cqWL : PySem.W.codeIn K cdWL "Table.with_lie" = true) (kWL : PySem.W.keepIn K (.ref fWL) = true)
    (aWK : PySem.W.findIn K (.ref CT) "with_key" = some (some (.ref fWK))) (iWK : PySem.W.isFn K (.ref fWK) = true)
    (lWK : K.lookup fWK = some ⟨ocWK, odWK, .func (PySem.W.fnOf "with_key" "Table.with_key" (defArgs s_Table_with_key) (defBody s_Table_with_key) (defScope s_Table_with_key) .none kVWK dcWK pmWK anWK cdWK ctWK), slWK⟩) (cqWK : PySem.W.codeIn K cdWK "Table.with_key" = true) (kWK : PySem.W.keepIn K (.ref fWK) = true)
    (aEQ : PySem.W.findIn K (.ref CT) "__eq__" = some (some (.ref fEQ))) (iEQ : PySem.W.isFn K (.ref fEQ) = true)
    (lEQ : K.lookup fEQ = some ⟨ocEQ, odEQ, .func (PySem.W.fnOf "__eq__" "Table.__eq__" (defArgs s_Table_eq) (defBody s_Table_eq) (defScope s_Table_eq) .none kVEQ dcEQ pmEQ anEQ cdEQ ctEQ), slEQ⟩) (cqEQ : PySem.W.codeIn K cdEQ "Table.__eq__" = true) (kEQ : PySem.W.keepIn K (.ref fEQ) = true)
    (aST : PySem.W.findIn K (.ref CT) "__str__" = some (some (.ref fST))) (iST : PySem.W.isFn K (.ref fST) = true)
    (lST : K.lookup fST = some ⟨ocST, odST, .func (PySem.W.fnOf "__str__" "Table.__str__" (defArgs s_Table_str) (defBody s_Table_str) (defScope s_Table_str) .none kVST dcST pmST anST cdST ctST), slST⟩) (cqST : PySem.W.codeIn K cdST "Table.__str__" = true) (kST : PySem.W.keepIn K (.ref fST) = true)
    (aI : PySem.W.findIn K (.ref CT) "__init__" = some (some (.ref fI))) (iI : PySem.W.isFn K (.ref fI) = true)
    (lI : K.lookup fI = some ⟨ocI, odI, .func (PySem.W.fnOf "__init__" "Table.__init__" (defArgs s_Table_init) (defBody s_Table_init) (defScope s_Table_init) .none (.ref DI) dcI pmI anI cdI ctI), slI⟩) (cqI : PySem.W.codeIn K cdI "Table.__init__" = true) (kI : PySem.W.keepIn K (.ref fI) = true)
    (n1 : PySem.W.findIn K (.ref CT) "name" = some none)
    (n2 : PySem.W.findIn K (.ref CT) "columns" = some none)
    (n3 : PySem.W.findIn K (.ref CT) "key" = some none)
    (n4 : PySem.W.findIn K (.ref CT) "lies" = some none)
    (z_int : PySem.W.nsIn K mainGlobals "int" = some none)
    (z_len : PySem.W.nsIn K mainGlobals "len" = some none)
    (z_abs : PySem.W.nsIn K mainGlobals "abs" = some none)
    (z_list : PySem.W.nsIn K mainGlobals "list" = some none)
    (z_range : PySem.W.nsIn K mainGlobals "range" = some none)
    (z_repr : PySem.W.nsIn K mainGlobals "repr" = some none)
    (z_isinstance : PySem.W.nsIn K mainGlobals "isinstance" = some none)
    (z_all : PySem.W.nsIn K mainGlobals "all" = some none)
    (z_str : PySem.W.nsIn K mainGlobals "str" = some none)
    (z_tuple : PySem.W.nsIn K mainGlobals "tuple" = some none)
    (z_min : PySem.W.nsIn K mainGlobals "min" = some none)
    (g_W : PySem.W.nsIn K mainGlobals "WORDS" = some (some (.ref aW)))
    (g_P : PySem.W.nsIn K mainGlobals "PLAIN_LIES" = some (some (.ref aP)))
    (g_F : PySem.W.nsIn K mainGlobals "FIRST" = some (some (.str first tF)))
    (g_L : PySem.W.nsIn K mainGlobals "LATER" = some (some (.str later tL)))
    (g_S : PySem.W.nsIn K mainGlobals "MOST_SIGNS" = some (some (.int 8 tS)))
    (g_R : PySem.W.nsIn K mainGlobals "MOST_RULED" = some (some (.int 3 tR)))
    (k_k : PySem.W.nsIn K DI "key" = some (some (.ref dk)))
    (k_l : PySem.W.nsIn K DI "lies" = some (some (.ref dl)))
    (t_W : K.lookup aW = some ⟨.type "tuple", od_aW, .seq it_aW nn_aW, sl_aW⟩)
    (t_P : K.lookup aP = some ⟨.type "tuple", od_aP, .seq #[.ref pa, .ref pb, .ref pc] nn_aP, sl_aP⟩)
    (t_pa : K.lookup pa = some ⟨.type "tuple", od_pa, .seq it_pa nn_pa, sl_pa⟩)
    (t_pb : K.lookup pb = some ⟨.type "tuple", od_pb, .seq it_pb nn_pb, sl_pb⟩)
    (t_pc : K.lookup pc = some ⟨.type "tuple", od_pc, .seq it_pc nn_pc, sl_pc⟩)
    (t_dk : K.lookup dk = some ⟨.type "tuple", od_dk, .seq it_dk nn_dk, sl_dk⟩)
    (t_dl : K.lookup dl = some ⟨.type "tuple", od_dl, .seq it_dl nn_dl, sl_dl⟩)
    (e_W : it_aW.toList.map absV = (words.map V.str).map some)
    (z_W : it_aW.size ≤ sizeLine)
    (e_pa : it_pa.toList.map absV = ([V.str "copied"] : List V).map some)
    (z_pa : it_pa.size ≤ sizeLine)
    (e_pb : it_pb.toList.map absV = ([V.str "anyhow"] : List V).map some)
    (z_pb : it_pb.size ≤ sizeLine)
    (e_pc : it_pc.toList.map absV = ([V.str "zero"] : List V).map some)
    (z_pc : it_pc.size ≤ sizeLine)
    (e_dk : it_dk.toList.map absV = ([] : List V).map some)
    (z_dk : it_dk.size ≤ sizeLine)
    (e_dl : it_dl.toList.map absV = ([V.str "anyhow"] : List V).map some)
    (z_dl : it_dl.size ≤ sizeLine)
    (y_ha : PySem.W.findIn K (.ref CT) "__class__" = some (some (.builtin "object.__class__")))
    (y_hn : PySem.W.specialIn K (.builtin "object.__class__") "__get__" = some (some (.builtin "getset_descriptor.__get__")))
    (y_tk : PySem.W.takesIn K (.builtin "object.__class__") = some true)
    (y_hm : PySem.W.mroIn K CT (.type "object") = some true)
    (y_ic : PySem.W.isClsIn K CT = true)
    (y_ty : PySem.W.typeIn K (.ref CT) = some (.type "type"))
    (y_t1 : PySem.W.subIn K (.type "str") (.ref CT) = some false)
    (y_t2 : PySem.W.subIn K (.type "NoneType") (.ref CT) = some false)
    (y_t3 : PySem.W.subIn K (.type "list") (.ref CT) = some false)
    (y_f0 : PySem.W.notFirst K CT (.ref CT) = true)
    (y_f1 : PySem.W.notFirst K CT (.type "str") = true)
    (y_f2 : PySem.W.notFirst K CT (.type "NoneType") = true)
    (y_f3 : PySem.W.notFirst K CT (.type "list") = true)
    (y_ne : PySem.W.findIn K (.ref CT) "__ne__" = some (some (.builtin "object.__ne__")))
    (m_a : PySem.W.findIn K (.ref CT) "MOST_COLUMNS" = some (some (.int 8 tM)))
    (m_g : PySem.W.specialIn K (.int 8 tM) "__get__" = some none)
    (c_r : PySem.W.readsIn K CT (.type "type") = true)
    (c_g : PySem.W.specialIn K (.ref CT) "__getattribute__" = some (some (.builtin "type.__getattribute__")))
    (c_v : PySem.W.findCls K (.ref CT) (.type "type") "MOST_COLUMNS" = some (.val (.int 8 tM))) :
    Cal P w K mg base 7 "law" (spLaw K) := by
  have DN : Dfn K mg "is_name" s_is_name := dfn_mk X G aN lN cqN kN
  have DU : Dfn K mg "is_unlike" s_is_unlike := dfn_mk X G aU lU cqU kU
  have DIL : Dfn K mg "is_lie" s_is_lie := dfn_mk X G aIL lIL cqIL kIL
  have Dxpen : Dfn K mg "_law_pen" s_law_pen := dfn_mk X G axpen lxpen cqxpen kxpen
  have Dxdraw : Dfn K mg "_law_draw" s_law_draw := dfn_mk X G axdraw lxdraw cqxdraw kxdraw
  have Dxpick : Dfn K mg "_law_pick" s_law_pick := dfn_mk X G axpick lxpick cqxpick kxpick
  have Dxsome : Dfn K mg "_law_some" s_law_some := dfn_mk X G axsome lxsome cqxsome kxsome
  have Dxnames : Dfn K mg "_law_names" s_law_names := dfn_mk X G axnames lxnames cqxnames kxnames
  have Dxlie : Dfn K mg "_law_lie" s_law_lie := dfn_mk X G axlie lxlie cqxlie kxlie
  have Dxbare : Dfn K mg "_law_bare" s_law_bare := dfn_mk X G axbare lxbare cqxbare kxbare
  have Dxmade : Dfn K mg "_law_made" s_law_made := dfn_mk X G axmade lxmade cqxmade kxmade
  have Dxrowof : Dfn K mg "_law_row_of" s_law_row_of := dfn_mk X G axrowof lxrowof cqxrowof kxrowof
  have Dxis : Dfn K mg "_law_is" s_law_is := dfn_mk X G axis lxis cqxis kxis
  have Dxother : Dfn K mg "_law_other" s_law_other := dfn_mk X G axother lxother cqxother kxother
  have Dxkeyed : Dfn K mg "_law_keyed" s_law_keyed := dfn_mk X G axkeyed lxkeyed cqxkeyed kxkeyed
  have DLaw : Dfn K mg "law" s_law := dfn_mk X G aLaw lLaw cqLaw kLaw
  have DWL : Mth K CT "with_lie" "Table.with_lie" s_Table_with_lie := mth_mk aWL iWL lWL cqWL kWL
  have DWK : Mth K CT "with_key" "Table.with_key" s_Table_with_key := mth_mk aWK iWK lWK cqWK kWK
  have DEQ : Mth K CT "__eq__" "Table.__eq__" s_Table_eq := mth_mk aEQ iEQ lEQ cqEQ kEQ
  have DST : Mth K CT "__str__" "Table.__str__" s_Table_str := mth_mk aST iST lST cqST kST
  have KT : Kls K mg "Table" CT := ⟨⟨pgT, hdT, poT, saT⟩, mkT, kcT, PySem.W.mg_of X G aCT⟩
  have b_int : mg "int" = none := PySem.W.mg_none_of X G z_int
  have b_len : mg "len" = none := PySem.W.mg_none_of X G z_len
  have b_abs : mg "abs" = none := PySem.W.mg_none_of X G z_abs
  have b_list : mg "list" = none := PySem.W.mg_none_of X G z_list
  have b_range : mg "range" = none := PySem.W.mg_none_of X G z_range
  have b_repr : mg "repr" = none := PySem.W.mg_none_of X G z_repr
  have b_isinstance : mg "isinstance" = none := PySem.W.mg_none_of X G z_isinstance
  have b_all : mg "all" = none := PySem.W.mg_none_of X G z_all
  have b_str : mg "str" = none := PySem.W.mg_none_of X G z_str
  have b_tuple : mg "tuple" = none := PySem.W.mg_none_of X G z_tuple
  have b_min : mg "min" = none := PySem.W.mg_none_of X G z_min
  have T : Txt K mg aW aP CT := ⟨b_int, b_len, b_abs, b_list, b_range, b_repr, b_isinstance, b_all, b_str, b_tuple, b_min, KT.at_, ⟨_, PySem.W.mg_of X G g_W, rfl⟩, ⟨_, PySem.W.mg_of X G g_F, ⟨_, rfl⟩⟩, ⟨_, PySem.W.mg_of X G g_L, ⟨_, rfl⟩⟩, ⟨_, PySem.W.mg_of X G g_S, ⟨_, rfl⟩⟩, ⟨_, PySem.W.mg_of X G g_R, ⟨_, rfl⟩⟩, ⟨_, PySem.W.mg_of X G g_P, rfl⟩,
    kTup t_W e_W z_W, ⟨pa, pb, pc, fun H => ⟨kTup t_P rfl (Nat.le_of_ble_eq_true rfl) H, kTup t_pa e_pa z_pa H, kTup t_pb e_pb z_pb H, kTup t_pc e_pc z_pc H⟩⟩⟩
  have F : TabF K CT := ⟨KT.cls, y_ha, y_hn, y_tk, y_hm, kit_self, kit_no y_ic y_ty y_t1 rfl, kit_no y_ic y_ty y_t2 rfl, kit_no y_ic y_ty y_t3 rfl, y_f0, y_f1, y_f2, y_f3, y_ne, KT.makes, ⟨_, ⟨m_a, ⟨_, rfl⟩, m_g, rfl⟩⟩, n1, n2, n3, n4⟩
  have G' : ClsF K CT := ⟨_, _, ⟨c_r, c_g⟩, ⟨c_v, ⟨_, rfl⟩⟩⟩
  have MI : G1.MthD K CT "__init__" "Table.__init__" s_Table_init (kws0 dk dl) := G1.mthD_mk aI iI lI cqI kI (by
    intro q hq
    simp only [List.mem_cons, List.not_mem_nil, or_false] at hq
    rcases hq with rfl | rfl
    · exact ⟨_, k_k, rfl⟩
    · exact ⟨_, k_l, rfl⟩)
  have hdk : ∀ H, SqT K H dk [] := kTup t_dk e_dk z_dk
  have hdl : ∀ H, SqT K H dl [.str "anyhow"] := kTup t_dl e_dl z_dl
  have c1 := cName (P := P) (w := w) (base := base) DN T
  have c2 := cUnlike (P := P) (w := w) (base := base) DU T
  have c3 := cIsLie DIL T c1 c2
  have q1 := kAB MI KT T F c1 c2 c3
  have q2 := kL MI KT T F c1 c2 c3
  have q3 := kK MI KT T F c1 c2 c3
  have q4 := k0 MI KT T F c1 c2 c3
  have m1 := mStr (P := P) (w := w) (base := base) DST T F
  have m2 := mEq DEQ T F m1
  have m3 := mLie DWL T F q1
  have m4 := mKey DWK T F q1
  have d1 := cDraw (P := P) (w := w) (base := base) Dxdraw T
  have d2 := cPen (P := P) (w := w) (base := base) Dxpen T
  have d3 := cPick Dxpick T d1
  have d4 := cSome Dxsome T d1
  have d5 := cNames Dxnames T d1
  have d6 := cLie Dxlie T d3 d4
  have d7 := cBare Dxbare T d1 d3 d4 d5 d6
  have d8 := cMade Dxmade T hdk hdl d1 q1 q2 q3 q4
  have d9 := cOther Dxother T d1 d3 d4 d6
  have dA := cKeyed Dxkeyed T F m4
  have dB := cRow (P := P) (w := w) (base := base) Dxrowof T
  have dC := cIs Dxis T F (G0.upM m1) (G0.up dB)
  exact cLaw DLaw T F G' (G0.up d2) (G0.up d7) (G0.up d8) (G0.up d9) dC (G0.upM m2) (G0.upM m1) (G0.up d4) (G0.up d6) (G0.up dA) (G0.upM m3) q1
end K14
open PySem PySem.W PyProof.Rows in
set_option maxRecDepth 100000 in
set_option maxHeartbeats 0 in
theorem PySem.Challenge.cw_splitplans_k14_tables_told_holds : PySem.Challenge.rw_splitplans_k14_tables_told.Holds := by
  w_on; o_law; k_head; (case hw => w_witness2)
  k_fill
  refine G0.walkG (l := PySem.Challenge.rw_splitplans_k14_tables_told) (k := 7) (sp := K14.spLaw) rfl rfl ⟨⟨rfl, by decide, by decide⟩, rfl⟩ (fun w h Y => PySem.W.kIn_of Y) (fun K H a ns hl hS => ⟨a, ns, rfl, hS, hl, fun _ => rfl⟩) ?F
  case F =>
    intro w mg h KX G base
    refine' K14.all_mk KX G ?aCT ?pgT ?hdT ?poT ?saT ?mkT ?kcT ?aN ?lN ?cqN ?kN ?aU ?lU ?cqU ?kU ?aIL ?lIL ?cqIL ?kIL ?axpen ?lxpen ?cqxpen ?kxpen ?axdraw ?lxdraw ?cqxdraw ?kxdraw ?axpick ?lxpick ?cqxpick ?kxpick ?axsome ?lxsome ?cqxsome ?kxsome ?axnames ?lxnames ?cqxnames ?kxnames ?axlie ?lxlie ?cqxlie ?kxlie ?axbare ?lxbare ?cqxbare ?kxbare ?axmade ?lxmade ?cqxmade ?kxmade ?axrowof ?lxrowof ?cqxrowof ?kxrowof ?axis ?lxis ?cqxis ?kxis ?axother ?lxother ?cqxother ?kxother ?axkeyed ?lxkeyed ?cqxkeyed ?kxkeyed ?aLaw ?lLaw ?cqLaw ?kLaw ?aWL ?iWL ?lWL ?cqWL ?kWL ?aWK ?iWK ?lWK ?cqWK ?kWK ?aEQ ?iEQ ?lEQ ?cqEQ ?kEQ ?aST ?iST ?lST ?cqST ?kST ?aI ?iI ?lI ?cqI ?kI ?n1 ?n2 ?n3 ?n4 ?z_int ?z_len ?z_abs ?z_list ?z_range ?z_repr ?z_isinstance ?z_all ?z_str ?z_tuple ?z_min ?g_W ?g_P ?g_F ?g_L ?g_S ?g_R ?k_k ?k_l ?t_W ?t_P ?t_pa ?t_pb ?t_pc ?t_dk ?t_dl ?e_W ?z_W ?e_pa ?z_pa ?e_pb ?z_pb ?e_pc ?z_pc ?e_dk ?z_dk ?e_dl ?z_dl ?y_ha ?y_hn ?y_tk ?y_hm ?y_ic ?y_ty ?y_t1 ?y_t2 ?y_t3 ?y_f0 ?y_f1 ?y_f2 ?y_f3 ?y_ne ?m_a ?m_g ?c_r ?c_g ?c_v
    (case aCT => k_is)
    (case pgT => k_is)
    (case hdT => k_is)
    (case poT => k_is)
    (case saT => k_is)
    (case mkT => k_is)
    (case kcT => k_is)
    (case aN => k_is)
    (case lN => k_is)
    (case cqN => k_is)
    (case kN => k_is)
    (case aU => k_is)
    (case lU => k_is)
    (case cqU => k_is)
    (case kU => k_is)
    (case aIL => k_is)
    (case lIL => k_is)
    (case cqIL => k_is)
    (case kIL => k_is)
    (case axpen => k_is)
    (case lxpen => k_is)
    (case cqxpen => k_is)
    (case kxpen => k_is)
    (case axdraw => k_is)
    (case lxdraw => k_is)
    (case cqxdraw => k_is)
    (case kxdraw => k_is)
    (case axpick => k_is)
    (case lxpick => k_is)
    (case cqxpick => k_is)
    (case kxpick => k_is)
    (case axsome => k_is)
    (case lxsome => k_is)
    (case cqxsome => k_is)
    (case kxsome => k_is)
    (case axnames => k_is)
    (case lxnames => k_is)
    (case cqxnames => k_is)
    (case kxnames => k_is)
    (case axlie => k_is)
    (case lxlie => k_is)
    (case cqxlie => k_is)
    (case kxlie => k_is)
    (case axbare => k_is)
    (case lxbare => k_is)
    (case cqxbare => k_is)
    (case kxbare => k_is)
    (case axmade => k_is)
    (case lxmade => k_is)
    (case cqxmade => k_is)
    (case kxmade => k_is)
    (case axrowof => k_is)
    (case lxrowof => k_is)
    (case cqxrowof => k_is)
    (case kxrowof => k_is)
    (case axis => k_is)
    (case lxis => k_is)
    (case cqxis => k_is)
    (case kxis => k_is)
    (case axother => k_is)
    (case lxother => k_is)
    (case cqxother => k_is)
    (case kxother => k_is)
    (case axkeyed => k_is)
    (case lxkeyed => k_is)
    (case cqxkeyed => k_is)
    (case kxkeyed => k_is)
    (case aLaw => k_is)
    (case lLaw => k_is)
    (case cqLaw => k_is)
    (case kLaw => k_is)
    (case aWL => k_is)
    (case iWL => k_is)
    (case lWL => k_is)
    (case cqWL => k_is)
    (case kWL => k_is)
    (case aWK => k_is)
    (case iWK => k_is)
    (case lWK => k_is)
    (case cqWK => k_is)
    (case kWK => k_is)
    (case aEQ => k_is)
    (case iEQ => k_is)
    (case lEQ => k_is)
    (case cqEQ => k_is)
    (case kEQ => k_is)
    (case aST => k_is)
    (case iST => k_is)
    (case lST => k_is)
    (case cqST => k_is)
    (case kST => k_is)
    (case aI => k_is)
    (case iI => k_is)
    (case lI => k_is)
    (case cqI => k_is)
    (case kI => k_is)
    (case n1 => k_is)
    (case n2 => k_is)
    (case n3 => k_is)
    (case n4 => k_is)
    (case z_int => k_is)
    (case z_len => k_is)
    (case z_abs => k_is)
    (case z_list => k_is)
    (case z_range => k_is)
    (case z_repr => k_is)
    (case z_isinstance => k_is)
    (case z_all => k_is)
    (case z_str => k_is)
    (case z_tuple => k_is)
    (case z_min => k_is)
    (case g_W => k_is)
    (case g_P => k_is)
    (case g_F => k_is)
    (case g_L => k_is)
    (case g_S => k_is)
    (case g_R => k_is)
    (case k_k => k_is)
    (case k_l => k_is)
    (case t_W => k_is)
    (case t_P => k_is)
    (case t_pa => k_is)
    (case t_pb => k_is)
    (case t_pc => k_is)
    (case t_dk => k_is)
    (case t_dl => k_is)
    (case e_W => rfl)
    (case z_W => decide +kernel)
    (case e_pa => rfl)
    (case z_pa => decide +kernel)
    (case e_pb => rfl)
    (case z_pb => decide +kernel)
    (case e_pc => rfl)
    (case z_pc => decide +kernel)
    (case e_dk => rfl)
    (case z_dk => decide +kernel)
    (case e_dl => rfl)
    (case z_dl => decide +kernel)
    (case y_ha => k_is)
    (case y_hn => k_is)
    (case y_tk => k_is)
    (case y_hm => k_is)
    (case y_ic => k_is)
    (case y_ty => k_is)
    (case y_t1 => k_is)
    (case y_t2 => k_is)
    (case y_t3 => k_is)
    (case y_f0 => k_is)
    (case y_f1 => k_is)
    (case y_f2 => k_is)
    (case y_f3 => k_is)
    (case y_ne => k_is)
    (case m_a => k_is)
    (case m_g => k_is)
    (case c_r => k_is)
    (case c_g => k_is)
    (case c_v => k_is)
#print axioms PySem.Challenge.cw_splitplans_k14_tables_told_holds


