import PyProof.Rows.All
import Wide.All
import OpenK.AllK
import Wide.FinOn
import KE.KOpsOwn
import KE.KExcIs
import HandS.ForMost
import HandS.ForExc
import HandS.IsInst
import HandS.Property
import HandS.CallSlots
import HandS.ExcCtx
import HandS.HotCalls
import HandS.ExcField
import HandS.ExcIs
import HandS.Flow
import HandS.Wide
import HandS.Conv
import HandS.Defaults
import KE.RegKIsAll
import HandS.EndBits
import PySem.Challenge.RW_gangbooks_k02_share_floor_rest
set_option Elab.async false
set_option linter.all false
set_option maxRecDepth 100000
set_option maxHeartbeats 1000000
set_option synthInstance.maxSize 100000
set_option synthInstance.maxHeartbeats 1000000
/-! GA: defs, classes and own operators of the text, as rules of the hand layer; what a callee raises is wished for at the caller's slots. -/
namespace GG
open PySem L2 PyProof.Rows

/-- a def by its body, what it lets out having no context -/
theorem Fun.okN {P : Program} {w : World} {K : PySem.W.Frag} {mg : Str → Option Value} {base : Heap} {x qual : Str} {st : Stmt} {f : Addr} {fd : FuncData} {N ps : List Str} {k : Nat} {sp : Sp} (F : Fun K x qual st f fd) (S : FnScope N ps (defScope st)) (len : ∀ vs H Q E, sp vs H Q E → vs.length = ps.length)
    (hbody : ∀ (cdv : Value) (A : Around) (outer : List Env) (s : Shared) (H : Hp) (vs : List V) (Q : VK) (E : XK), Room k (A.deeper (envOfC qual (defScope st) s.heap.objs.size f cdv)) → sp vs H Q E →
      ∃ t, PSs (cxOf (L2N.CX P w) P w K mg base N qual (defScope st) f cdv A outer s H E) (defBody st) t ∧ t { nx := fun _ H' => Q .non H', rt := Q } (start N vs) H) : FnOk P w K mg base (L2N.CX P w) (k + 1) f fd ps sp := by
  obtain ⟨oc, od, kV, doc, pm, an, cdv, ct, osl, rfl, lk, hcd⟩ := F.ex
  exact fn_of lk hcd S len fun A outer s H vs Q E hr hsp => hbody cdv A outer s H vs Q E hr hsp
/-- .. called within an except suite -/
theorem Fun.okH {P : Program} {w : World} {K : PySem.W.Frag} {mg : Str → Option Value} {base : Heap} {x qual : Str} {st : Stmt} {f : Addr} {fd : FuncData} {N ps : List Str} {k : Nat} {sp : Sp} (F : Fun K x qual st f fd) (S : FnScope N ps (defScope st)) (len : ∀ vs H Q E, sp vs H Q E → vs.length = ps.length)
    (hbody : ∀ (cdv : Value) (A : Around) (outer : List Env) (s : Shared) (H : Hp) (vs : List V) (Q : VK) (E : XK) (p : Addr × Obj), L2H.Hot1 A p → L2H.RoomH k (A.deeper (envOfC qual (defScope st) s.heap.objs.size f cdv)) → sp vs H Q E →
      ∃ t, PSs (L2H.cxH (L2N.CX P w) P w K mg base N qual (defScope st) f cdv A outer s H E p) (defBody st) t ∧ t { nx := fun _ H' => Q .non H', rt := Q } (start N vs) H) : L2H.FnH P w K mg base (L2N.CX P w) (k + 1) f fd ps sp := by
  obtain ⟨oc, od, kV, doc, pm, an, cdv, ct, osl, rfl, lk, hcd⟩ := F.ex
  exact L2H.fn_ofH lk hcd S len fun A outer s H vs Q E p hot hr hsp => hbody cdv A outer s H vs Q E p hot hr hsp

/-! ### bundles: a def of the top, a special method, a method, a class that is made -/
structure Fn (P : Program) (w : World) (K : PySem.W.Frag) (mg : Str → Option Value) (base : Heap) (x : Str) (k : Nat) (ps : List Str) (dvs : List V) (sp : Sp) : Prop where
  ex : ∃ f fd ds, FnOk P w K mg base (L2N.CX P w) k f fd ps sp ∧ mg x = some (.ref f) ∧ PySem.W.keepIn K (.ref f) = true ∧ L2.Binds K fd ps ds ∧ Vals dvs ds
/-- the class at C has the special method name -/
structure Sm (P : Program) (w : World) (K : PySem.W.Frag) (mg : Str → Option Value) (base : Heap) (C : Addr) (name : Str) (k : Nat) (ps : List Str) (sp : Sp) : Prop where
  ex : ∃ f fd, FnOk P w K mg base (L2N.CX P w) k f fd ps sp ∧ PySem.W.findIn K (.ref C) name = some (some (.ref f)) ∧ PySem.W.isFn K (.ref f) = true ∧ L2.Binds K fd ps []
/-- the class at C has the method m -/
structure Mt (P : Program) (w : World) (K : PySem.W.Frag) (mg : Str → Option Value) (base : Heap) (C : Addr) (m : Str) (k : Nat) (ps : List Str) (dvs : List V) (sp : Sp) : Prop where
  ex : ∃ f fd ds, FnOk P w K mg base (L2N.CX P w) k f fd ps sp ∧ Meth K C m f ∧ L2.Binds K fd ps ds ∧ Vals dvs ds
  cls : Cls K C
/-- the class x, at C, is made by its __init__ -/
structure Mc (P : Program) (w : World) (K : PySem.W.Frag) (mg : Str → Option Value) (base : Heap) (x : Str) (C : Addr) (k : Nat) (ps : List Str) (dvs : List V) (sp : Sp) : Prop where
  ex : ∃ f fd ds, FnOk P w K mg base (L2N.CX P w) k f fd ps sp ∧ Mk K C f ∧ mg x = some (.ref C) ∧ L2.Binds K fd ps ds ∧ Vals dvs ds

/-- what a callee lets out is taken, at every slots -/
def Ps (X : Cx) (E : L2.St → XK) : Prop := ∀ σ, PassesAt (L2N.CX X.prog X.w) X σ (E σ)
theorem ps_of {X : Cx} {W : WX} (tk : L2N.Takes X W) : Ps X (WE W) := fun σ => L2N.passAt tk σ
/-- nothing is let out -/
abbrev W0 : WX := fun _ _ _ _ => False
theorem ps0 {X : Cx} : Ps X (WE W0) := fun _ _ _ _ _ _ _ h => by
  obtain ⟨_, _, _, _, _, _, _, _, _, _, _, _, z⟩ := h
  exact z.elim

section
variable {X : Cx} {CX : CXT} {k : Nat} {C f : Addr} {fd : FuncData} {ps : List Str} {sp : Sp} {E : L2.St → XK} {dvs : List V} {ds : List Value} {x m : Str} {p pos apos : Pos} {e o : Expr} {es : List Expr} {ta tb : TE} {t : TA} {a b : Expr}
/-- the callee runs somewhere below the body -/
theorem run_at {A : Around} {pins : List (Addr × Obj)} {σ : L2.St} {H : Hp} {s : Shared} {Q : VK} {E : XK} {us : List Value} {vs : List V} (F : FnOk X.prog X.w X.K X.mg X.base CX k f fd ps sp) (hr : Room k A) (fr : A.frames = X.A.frames) (hb : L2.Binds X.K fd ps ds) (hd : Vals dvs ds)
    (hx : PassesAt CX X σ E) (I : L2.Inv X pins σ H s) (r : Vals vs us) (h : sp (vs ++ dvs) H Q E) : wpAny (model X.prog X.w) A (call (.ref f) us) (EP X pins σ Q) X.xe s := by
  have e0 : Env0 X.prog X.w X.K X.mg X.base A X.stack s H := by
    have e := I.env0
    exact ⟨by rw [fr]; exact e.frames, e.mod, e.bs, e.bsz, e.funs, e.frf, e.hok, e.bare⟩
  have r2 : Vals (vs ++ dvs) (us ++ ds) := r.append hd
  have hl : (us ++ ds).length = ps.length := by rw [← r2.length]; exact F.len _ _ _ _ h
  refine wpAny_call (codeAny_mono (F.run A X.stack s H ⟨us, []⟩ (us ++ ds) (vs ++ dvs) Q E hr e0 (hb s us I.kIn hl) r2 h) fun r s' hq => ?_)
  cases r with
  | error e => exact hx pins H s e s' I hq
  | ok fl =>
    cases fl with
    | ret u => exact I.after hq
    | next => exact False.elim hq
    | brk => exact False.elim hq
    | cont => exact False.elim hq
/-- .. without defaults -/
theorem run_at0 {A : Around} {pins : List (Addr × Obj)} {σ : L2.St} {H : Hp} {s : Shared} {Q : VK} {E : XK} {us : List Value} {vs : List V} (F : FnOk X.prog X.w X.K X.mg X.base CX k f fd ps sp) (hr : Room k A) (fr : A.frames = X.A.frames) (hb : L2.Binds X.K fd ps [])
    (hx : PassesAt CX X σ E) (I : L2.Inv X pins σ H s) (r : Vals vs us) (h : sp vs H Q E) : wpAny (model X.prog X.w) A (call (.ref f) us) (EP X pins σ Q) X.xe s :=
  run_at (dvs := []) F hr fr hb .nil hx I r (by rw [List.append_nil]; exact h)

/-- f(e, ..) -/
theorem pe_fn (F : Fn X.prog X.w X.K X.mg X.base x k ps dvs sp) (hr : Room k X.A) (hx : Ps X E) (ha : PA X (e :: es) t) (hg : Gl X x := by rfl) (hdb : (x == ("__debug__" : Str)) = false := by decide)
    (he : starEach (e :: es) X.env = (false, eval e X.env) :: starEach es X.env := by rfl) (hpl : (backTo pos (starEach es X.env)).any (·.1) = false := by rfl) :
    PE X (.Call (.Name x p) (e :: es) [] pos) (tCallSD sp dvs E t) := by
  obtain ⟨f, fd, ds, F, hm, hk, hb, hd⟩ := F.ex
  exact pe_callSD F hr hg hm hk hb hd hx ha hdb he hpl

/-- o.m(e, ..), o.m() -/
def tMtS (C : Addr) (m : Str) (sp : Sp) (dvs : List V) (E : L2.St → XK) (ta : TE) (t : TA) : TE := fun σ H Q => ta σ H fun x H1 => ∃ a dx fs, x = .ref a ∧ H1 a = some (.ins C dx fs) ∧ fs.lookup m = none ∧
  t σ H1 fun vs H2 => sp (.ref a :: (vs ++ dvs)) H2 Q (E σ)
theorem pe_mt {pl : Sem Bool} (F : Mt X.prog X.w X.K X.mg X.base C m k ps dvs sp) (hr : Room k X.A) (hx : Ps X E) (he : PE X o ta) (ha : PA X (e :: es) t)
    (hst : starEach (e :: es) X.env = (false, eval e X.env) :: starEach es X.env := by rfl) (hpl : (backTo pos (starEach es X.env)).any (·.1) = false := by rfl)
    (ht : eval (.Call (.Attribute o m apos) (e :: es) [] pos) X.env = (do
      let ov ← eval o X.env
      standAt apos.atName
      let (f, first) ← holding [ov] (getMethod ov m pl)
      callWith pos f first (backTo pos (starEach (e :: es) X.env)) (backToKw pos (keywordEach [] X.env))) := by rfl) :
    PE X (.Call (.Attribute o m apos) (e :: es) [] pos) (tMtS C m sp dvs E ta t) := by
  obtain ⟨⟨f, fd, ds, F, hm, hb, hd⟩, c⟩ := F
  refine ⟨fun pins s σ H Q I h => ?_⟩
  refine PySem.W.methodCall_KW (pl := pl) (thn (he.run pins s σ H _ I h) fun u s1 ⟨x, H1, I1, rx, a, dx, fs, ex, ea, l, q⟩ => ?_) ht
  subst ex
  obtain rfl : u = Value.ref a := rx
  refine getmeth_ok I1 ea c hm l ?_
  refine PySem.W.callWith_K (first := [.ref a]) (h₀ := X.base) I.ok.mod.kin hm.kp (thn (ha.run pos pins s1 σ H1 _ I1 q) fun us s2 ⟨vs, H2, I2, r, q2⟩ => ⟨I2.kIn, ?_⟩) hst hpl
  exact run_at (us := .ref a :: us) (vs := .ref a :: vs) F hr rfl hb hd (hx σ) I2 (.cons rfl r) q2
theorem pe_mt0 {pl : Sem Bool} (F : Mt X.prog X.w X.K X.mg X.base C m k ps dvs sp) (hr : Room k X.A) (hx : Ps X E) (he : PE X o ta)
    (ht : eval (.Call (.Attribute o m apos) [] [] pos) X.env = (do
      let ov ← eval o X.env
      standAt apos.atName
      let (f, first) ← holding [ov] (getMethod ov m pl)
      callWith pos f first (backTo pos (starEach [] X.env)) (backToKw pos (keywordEach [] X.env))) := by rfl) :
    PE X (.Call (.Attribute o m apos) [] [] pos) (tMtS C m sp dvs E ta tNil) := by
  obtain ⟨⟨f, fd, ds, F, hm, hb, hd⟩, c⟩ := F
  refine ⟨fun pins s σ H Q I h => ?_⟩
  refine PySem.W.methodCall_KW (pl := pl) (thn (he.run pins s σ H _ I h) fun u s1 ⟨x, H1, I1, rx, a, dx, fs, ex, ea, l, q⟩ => ?_) ht
  subst ex
  obtain rfl : u = Value.ref a := rx
  refine getmeth_ok I1 ea c hm l ?_
  exact PySem.W.callWith_K0 (first := [.ref a]) I1.kIn hm.kp (run_at (us := [.ref a]) (vs := [.ref a]) F hr rfl hb hd (hx σ) I1 (.cons rfl .nil) q)

/-- C(e, ..): a new instance and its dict, then __init__ -/
def tMkS (C : Addr) (sp : Sp) (dvs : List V) (E : L2.St → XK) (t : TA) : TE := fun σ H Q => t σ H fun vs H1 => ∀ x dx, H1 x = none → H1 dx = none → dx ≠ x →
  sp (.ref x :: (vs ++ dvs)) (upd (upd H1 dx (.own x)) x (.ins C dx [])) (fun v H2 => v = .non ∧ Q (.ref x) H2) (E σ)
theorem run_mk {pins : List (Addr × Obj)} {σ : L2.St} {H : Hp} {s : Shared} {Q : VK} {E : XK} {us : List Value} {vs : List V} (M : Mk X.K C f) (F : FnOk X.prog X.w X.K X.mg X.base CX k f fd ps sp) (hr : Room (k + 1) X.A) (hb : L2.Binds X.K fd ps ds) (hd : Vals dvs ds)
    (hx : PassesAt CX X σ E) (I : L2.Inv X pins σ H s) (r : Vals vs us)
    (h : ∀ x dx, H x = none → H dx = none → dx ≠ x → sp (.ref x :: (vs ++ dvs)) (upd (upd H dx (.own x)) x (.ins C dx [])) (fun v H2 => v = .non ∧ Q (.ref x) H2) E) :
    wpAny (model X.prog X.w) X.A (call (.ref C) us) (EP X pins σ Q) X.xe s := by
  have hq := h (s.heap.objs.size + 1) s.heap.objs.size (I.hok.fresh (Nat.le_succ _)) (I.hok.fresh (Nat.le_refl _)) (Nat.ne_of_lt (Nat.lt_succ_self _))
  have I2 := Inv.made (C := C) I
  have r2 : Vals (V.ref (s.heap.objs.size + 1) :: (vs ++ dvs)) (Value.ref (s.heap.objs.size + 1) :: (us ++ ds)) := .cons rfl (r.append hd)
  have hl : (Value.ref (s.heap.objs.size + 1) :: us ++ ds).length = ps.length := by
    have e := r2.length
    rw [F.len _ _ _ _ hq] at e
    exact e.symm
  refine wpAny_call (make_map (f := f) I.kIn M.makes M.init (beq_iff_eq.mp M.fn) (codeAny_mono (F.run _ X.stack _ _ ⟨Value.ref (s.heap.objs.size + 1) :: us, []⟩
    (Value.ref (s.heap.objs.size + 1) :: (us ++ ds)) _ _ E (hr.make C us []) (I2.env0.make C us []) (hb _ (Value.ref (s.heap.objs.size + 1) :: us) I2.kIn hl) r2 hq) fun r s' hq' => ?_))
  cases r with
  | error e => exact hx pins _ _ e s' I2 hq'
  | ok fl =>
    cases fl with
    | ret u =>
      obtain ⟨v, H', I3, rv, ev, q3⟩ := I2.after hq'
      subst ev
      exact ⟨rv, ⟨V.ref (s.heap.objs.size + 1), H', I3, rfl, q3⟩⟩
    | next => exact False.elim hq'
    | brk => exact False.elim hq'
    | cont => exact False.elim hq'
theorem pe_mk (M : Mc X.prog X.w X.K X.mg X.base x C k ps dvs sp) (hr : Room (k + 1) X.A) (hx : Ps X E) (ha : PA X (e :: es) t) (hg : Gl X x := by rfl) (hdb : (x == ("__debug__" : Str)) = false := by decide)
    (he : starEach (e :: es) X.env = (false, eval e X.env) :: starEach es X.env := by rfl) (hpl : (backTo pos (starEach es X.env)).any (·.1) = false := by rfl) :
    PE X (.Call (.Name x p) (e :: es) [] pos) (tMkS C sp dvs E t) := by
  obtain ⟨f, fd, ds, F, M, hm, hb, hd⟩ := M.ex
  refine ⟨fun pins s σ H Q I h => ?_⟩
  refine wpAny_Call_Name_kw (ld_glob I hg hm ?_ hdb)
  refine PySem.W.callWith_K (h₀ := X.base) I.ok.mod.kin M.kp (thn (ha.run pos pins s σ H _ I h) fun us s1 ⟨vs, H1, I1, r, q⟩ => ⟨I1.kIn, ?_⟩) he hpl
  exact run_mk M F hr hb hd (hx σ) I1 r q

/-! ### operators with the slots -/
abbrev R2S := L2.St → R2
def OpS (X : Cx) (f : Value → Value → Sem Value) (r : R2S) : Prop :=
  ∀ (pins : List (Addr × Obj)) (s : Shared) (σ : L2.St) (H : Hp) (x y : V) (v u : Value) (Q : VK), L2.Inv X pins σ H s → RelV x v → RelV y u → r σ x y H Q →
    wpAny (model X.prog X.w) X.A (f v u) (EP X pins σ Q) X.xe s
def tOpS (r : R2S) (ta tb : TE) : TE := fun σ H Q => ta σ H fun x H1 => tb σ H1 fun y H2 => r σ x y H2 Q
theorem OpS.of {f : Value → Value → Sem Value} {r : R2} (h : OpR X f r) : OpS X f (fun _ => r) := fun pins s σ H x y v u Q I rx ry q => h pins s σ H x y v u Q I rx ry q
theorem OpS.or {f : Value → Value → Sem Value} {r r' : R2S} (h : OpS X f r) (h' : OpS X f r') : OpS X f (fun σ x y H Q => r σ x y H Q ∨ r' σ x y H Q) := fun pins s σ H x y v u Q I rx ry q => by
  rcases q with q | q
  · exact h pins s σ H x y v u Q I rx ry q
  · exact h' pins s σ H x y v u Q I rx ry q
theorem pe_opS {op : Operator} {r : R2S} (ho : OpS X (binaryOp op) r) (ha : PE X a ta) (hb : PE X b tb) : PE X (.BinOp a op b pos) (tOpS r ta tb) :=
  ⟨fun pins s σ H Q I h => wpAny_BinOp (binT ha hb I h fun v u s2 x y H2 I2 rx ry q => ho pins s2 σ H2 x y v u Q I2 rx ry q)⟩
theorem pe_cmpS {op : CmpOp} {r : R2S} (ho : OpS X (compareOp op) r) (ha : PE X a ta) (hb : PE X b tb) (hm : behindInMarks op b = false) : PE X (.Compare a [op] [b] pos) (tOpS r ta tb) :=
  ⟨fun pins s σ H Q I h => wpAny_Compare1 (binT ha hb I h fun v u s2 x y H2 I2 rx ry q => ho pins s2 σ H2 x y v u Q I2 rx ry q) hm⟩
theorem pt_cmpS {op : CmpOp} {r : R2S} (ho : OpS X (compareOp op) r) (ha : PE X a ta) (hb : PE X b tb) (hm : behindInMarks op b = false) : PT X (.Compare a [op] [b] pos) (tTest (tOpS r ta tb)) := by
  refine ⟨fun pins s σ H Q I h => wpAny_isTrue_Compare1 (thn (ha.run pins s σ H _ I h) fun v s1 ⟨x, H1, I1, r1, q1⟩ => thn (hb.run pins s1 σ H1 _ I1 q1) fun u s2 ⟨y, H2, I2, r2, q2⟩ =>
    thn (ho pins s2 σ H2 x y v u _ I2 r1 r2 q2) fun c s3 hz => ?_) hm⟩
  obtain ⟨z, H3, I3, r3, k, e, q3⟩ := hz
  subst e
  cases r3
  exact wpAny_truthy_bool ⟨H3, I3, q3⟩
def UnS (X : Cx) (f : Value → Sem Value) (r : L2.St → V → Hp → VK → Prop) : Prop :=
  ∀ (pins : List (Addr × Obj)) (s : Shared) (σ : L2.St) (H : Hp) (x : V) (v : Value) (Q : VK), L2.Inv X pins σ H s → RelV x v → r σ x H Q → wpAny (model X.prog X.w) X.A (f v) (EP X pins σ Q) X.xe s
def tUnS (r : L2.St → V → Hp → VK → Prop) (ta : TE) : TE := fun σ H Q => ta σ H fun x H1 => r σ x H1 Q
theorem UnS.of {f : Value → Sem Value} {r : V → Hp → VK → Prop} (h : UnR X f r) : UnS X f (fun _ => r) := fun pins s σ H x v Q I rx q => h pins s σ H x v Q I rx q
theorem pe_unS {op : UnaryOp} {r : L2.St → V → Hp → VK → Prop} (ho : UnS X (unaryOp op) r) (ha : PE X a ta) : PE X (.UnaryOp op a pos) (tUnS r ta) :=
  ⟨fun pins s σ H Q I h => UnaryOp_ (thn (ha.run pins s σ H _ I h) fun v s1 ⟨x, H1, I1, r1, q1⟩ => ho pins s1 σ H1 x v Q I1 r1 q1)⟩
/-- a call of a built-in by values, with the slots -/
def CallS (X : Cx) (f : Value) (r : L2.St → List V → Hp → VK → Prop) : Prop :=
  ∀ (pins : List (Addr × Obj)) (s : Shared) (σ : L2.St) (H : Hp) (xs : List V) (us : List Value) (Q : VK), L2.Inv X pins σ H s → Vals xs us → r σ xs H Q → wpAny (model X.prog X.w) X.A (call f us) (EP X pins σ Q) X.xe s
def tCBS (r : L2.St → List V → Hp → VK → Prop) (t : TA) : TE := fun σ H Q => t σ H fun vs H1 => r σ vs H1 Q
theorem CallS.of {f : Value} {r : List V → Hp → VK → Prop} (h : CallR X f r) : CallS X f (fun _ => r) := fun pins s σ H xs us Q I rx q => h pins s σ H xs us Q I rx q
theorem CallS.or {f : Value} {r r' : L2.St → List V → Hp → VK → Prop} (h : CallS X f r) (h' : CallS X f r') : CallS X f (fun σ xs H Q => r σ xs H Q ∨ r' σ xs H Q) := fun pins s σ H xs us Q I rx q => by
  rcases q with q | q
  · exact h pins s σ H xs us Q I rx q
  · exact h' pins s σ H xs us Q I rx q
theorem pe_callBS {id : String} {r : L2.St → List V → Hp → VK → Prop} (hc : CallS X (.builtin id) r) (hm : X.mg x = none) (hv : bootBuiltins x = some (.builtin id)) (ha : PA X (e :: es) t) (hg : Gl X x := by rfl) (hn : x ≠ "__name__" := by decide) (hdb : (x == ("__debug__" : Str)) = false := by decide)
    (he : starEach (e :: es) X.env = (false, eval e X.env) :: starEach es X.env := by rfl) (hpl : (backTo pos (starEach es X.env)).any (·.1) = false := by rfl) : PE X (.Call (.Name x p) (e :: es) [] pos) (tCBS r t) :=
  ⟨fun pins s σ H Q I h => wpAny_Call_Name_kw (ld_blt I hg hm hv (PyProof.Rows.callWith_builtin1 (thn (ha.run pos pins s σ H _ I h) fun us s1 ⟨vs, H1, I1, r1, q1⟩ => hc pins s1 σ H1 vs us Q I1 r1 q1) he hpl) hn hdb)⟩
theorem pe_callTS {T : String} {r : L2.St → List V → Hp → VK → Prop} (hc : CallS X (.type T) r) (hm : X.mg x = none) (hv : bootBuiltins x = some (.type T)) (ha : PA X (e :: es) t) (hg : Gl X x := by rfl) (hn : x ≠ "__name__" := by decide) (hdb : (x == ("__debug__" : Str)) = false := by decide)
    (he : starEach (e :: es) X.env = (false, eval e X.env) :: starEach es X.env := by rfl) (hpl : (backTo pos (starEach es X.env)).any (·.1) = false := by rfl) : PE X (.Call (.Name x p) (e :: es) [] pos) (tCBS r t) :=
  ⟨fun pins s σ H Q I h => wpAny_Call_Name_kw (ld_blt I hg hm hv (PyProof.Rows.callWith_type1 (thn (ha.run pos pins s σ H _ I h) fun us s1 ⟨vs, H1, I1, r1, q1⟩ => hc pins s1 σ H1 vs us Q I1 r1 q1) he hpl) hn hdb)⟩

/-! ### own operators -/
theorem inst_of {pins : List (Addr × Obj)} {σ : L2.St} {H : Hp} {s : Shared} {a dx : Addr} {fs : List (Str × V)} (I : L2.Inv X pins σ H s) (ea : H a = some (.ins C dx fs)) : ∃ ox od, PySem.W.InstAt s.heap a ox C od := by
  obtain ⟨mA, J, _⟩ := ins_get I.hok ea
  obtain ⟨od, J, _⟩ := J.look
  exact ⟨_, _, J⟩
theorem cmpBack_ep {pins : List (Addr × Obj)} {σ : L2.St} {Q : VK} {u : Value} {s' : Shared} (h : EP X pins σ Q u s') : PySem.W.CmpBack (EP X pins σ Q) u s' := by
  obtain ⟨v, H', I, r, q⟩ := id h
  cases v with
  | non => cases (show u = _ from r); exact h
  | bl b => cases (show u = _ from r); exact h
  | int i => obtain ⟨t, e⟩ := (show ∃ t, u = Value.int i t from r); cases e; exact h
  | str i => obtain ⟨t, e⟩ := (show ∃ t, u = Value.str i t from r); cases e; exact h
  | byt i => obtain ⟨t, e⟩ := (show ∃ t, u = Value.bytes i t from r); cases e; exact h
  | flt i => obtain ⟨t, e⟩ := (show ∃ t, u = Value.float i t from r); cases e; exact h
  | ref a => cases (show u = _ from r); exact h
  | ty a => cases (show u = _ from r); exact h

/-- x op y, both instances of the class at C -/
def rOwn (C : Addr) (sp : Sp) (E : L2.St → XK) : R2S := fun σ x y H Q => ∃ a dx fs b dy gs, x = .ref a ∧ H a = some (.ins C dx fs) ∧ y = .ref b ∧ H b = some (.ins C dy gs) ∧ sp [.ref a, .ref b] H Q (E σ)
theorem op_own {op : Operator} (S : Sm X.prog X.w X.K X.mg X.base C (PySem.dunder op.info.2) k ps sp) (hr : Room k X.A) (hx : Ps X E) (hc : PySem.W.selfFirst X.K C = true) : OpS X (binaryOp op) (rOwn C sp E) := by
  intro pins s σ H x y v u Q I rx ry hq
  obtain ⟨f, fd, F, hs, hf, hb⟩ := S.ex
  obtain ⟨a, dx, fs, b, dy, gs, rfl, ha, rfl, hb', q⟩ := hq
  cases rx
  cases ry
  obtain ⟨_, _, J⟩ := inst_of I ha
  obtain ⟨_, _, J'⟩ := inst_of I hb'
  obtain ⟨m, hF⟩ := I.fr
  refine PySem.W.binop_K hF I.ok.mod.kin J J'.type hc hs hf ?_
  exact thn (run_at0 (vs := [.ref a, .ref b]) F hr rfl hb (hx σ) I (.cons rfl (.cons rfl .nil)) q) fun _ _ z => cmpBack_ep z
/-- what the walk asks of a built-in type at the right of an own operator -/
structure RightT (K : PySem.W.Frag) (C : Addr) (T nm : String) : Prop where
  r1 : ∃ fo, PySem.W.findIn K (.type T) (PySem.dunder nm) = some fo
  r2 : ∃ ro, PySem.W.findIn K (.type T) (dunderR nm) = some ro
  rc : ∃ rc, PySem.W.findIn K (.ref C) (dunderR nm) = some rc ∧ (rc = none ∨ ∃ g : Addr, rc = some (.ref g))
  sub : PySem.W.subIn K (.type T) (.ref C) = some false
/-- x op y, y an int -/
def rOwnI (C : Addr) (sp : Sp) (E : L2.St → XK) : R2S := fun σ x y H Q => ∃ a dx fs i, x = .ref a ∧ H a = some (.ins C dx fs) ∧ y = .int i ∧ sp [.ref a, .int i] H Q (E σ)
theorem op_ownI {op : Operator} (S : Sm X.prog X.w X.K X.mg X.base C (PySem.dunder op.info.2) k ps sp) (hr : Room k X.A) (hx : Ps X E) (hc : PySem.W.selfFirst X.K C = true) (hi : RightT X.K C "int" op.info.2) : OpS X (binaryOp op) (rOwnI C sp E) := by
  intro pins s σ H x y v u Q I rx ry hq
  obtain ⟨f, fd, F, hs, hf, hb⟩ := S.ex
  obtain ⟨a, dx, fs, i, rfl, ha, rfl, q⟩ := hq
  cases rx
  obtain ⟨t, rfl⟩ := (show ∃ t, u = Value.int i t from ry)
  obtain ⟨_, _, J⟩ := inst_of I ha
  obtain ⟨m, hF⟩ := I.fr
  obtain ⟨fo, h1⟩ := hi.r1
  obtain ⟨ro, h2⟩ := hi.r2
  obtain ⟨rc, h3, h4⟩ := hi.rc
  refine PySem.W.ksp_binT hF I.ok.mod.kin J (T := "int") rfl hc hs hf h3 h4 h1 h2 hi.sub ?_
  exact thn (run_at0 (vs := [.ref a, .int i]) F hr rfl hb (hx σ) I (.cons rfl (.cons ⟨t, rfl⟩ .nil)) q) fun _ _ z => cmpBack_ep z
/-- x == y by the text's own ==, y an instance of the same class -/
theorem op_ownEq (S : Sm X.prog X.w X.K X.mg X.base C "__eq__" k ps sp) (hr : Room k X.A) (hx : Ps X E) : OpS X (compareOp .Eq) (rOwn C sp E) := by
  intro pins s σ H x y v u Q I rx ry hq
  obtain ⟨f, fd, F, hs, hf, hb⟩ := S.ex
  obtain ⟨a, dx, fs, b, dy, gs, rfl, ha, rfl, hb', q⟩ := hq
  cases rx
  cases ry
  obtain ⟨_, _, J⟩ := inst_of I ha
  obtain ⟨_, _, J'⟩ := inst_of I hb'
  obtain ⟨m, hF⟩ := I.fr
  show wpAny (model X.prog X.w) X.A (richCompare .Eq _ _) (EP X pins σ Q) X.xe s
  refine PySem.W.cmp_K (op := .Eq) (tb := .ref C) hr.units0 hF I.ok.mod.kin J J'.type (by simp [PySem.W.notFirst]) hs hf ?_
  exact thn (run_at0 (vs := [.ref a, .ref b]) F hr rfl hb (hx σ) I (.cons rfl (.cons rfl .nil)) q) fun _ _ z => cmpBack_ep z
/-- y in x by the text's own __contains__, which gives a bool -/
def rOwnIn (C : Addr) (sp : Sp) (E : L2.St → XK) : R2S := fun σ y x H Q => ∃ a dx fs, x = .ref a ∧ H a = some (.ins C dx fs) ∧ sp [.ref a, y] H (fun v H' => ∃ c, v = .bl c ∧ Q (.bl c) H') (E σ)
theorem op_ownIn (S : Sm X.prog X.w X.K X.mg X.base C "__contains__" k ps sp) (hr : Room k X.A) (hx : Ps X E) : OpS X (compareOp .In) (rOwnIn C sp E) := by
  intro pins s σ H y x v u Q I ry rx hq
  obtain ⟨f, fd, F, hs, hf, hb⟩ := S.ex
  obtain ⟨a, dx, fs, rfl, ha, q⟩ := hq
  cases rx
  obtain ⟨_, _, J⟩ := inst_of I ha
  obtain ⟨m, hF⟩ := I.fr
  refine PySem.W.in_K hF I.ok.mod.kin J hs hf ?_
  refine thn (run_at0 (vs := [.ref a, y]) F hr rfl hb (hx σ) I (.cons rfl (.cons ry .nil)) q) fun r s' z => ?_
  obtain ⟨w', H', I', rw', c, ec, q'⟩ := z
  subst ec
  cases rw'
  exact wpAny_truthy_bool ⟨.bl c, H', I', rfl, q'⟩
/-- -x by the text's own __neg__ -/
def rOwn1 (C : Addr) (sp : Sp) (E : L2.St → XK) : L2.St → V → Hp → VK → Prop := fun σ x H Q => ∃ a dx fs, x = .ref a ∧ H a = some (.ins C dx fs) ∧ sp [.ref a] H Q (E σ)
theorem un_own (S : Sm X.prog X.w X.K X.mg X.base C "__neg__" k ps sp) (hr : Room k X.A) (hx : Ps X E) : UnS X (unaryOp .USub) (rOwn1 C sp E) := by
  intro pins s σ H x v Q I rx hq
  obtain ⟨f, fd, F, hs, hf, hb⟩ := S.ex
  obtain ⟨a, dx, fs, rfl, ha, q⟩ := hq
  cases rx
  obtain ⟨_, _, J⟩ := inst_of I ha
  obtain ⟨m, hF⟩ := I.fr
  refine PySem.W.ksp_neg hF I.ok.mod.kin J hs hf ?_
  exact run_at0 (vs := [.ref a]) F hr rfl hb (hx σ) I (.cons rfl .nil) q
/-- abs(x) by the text's own __abs__ -/
def rOwnC (C : Addr) (sp : Sp) (E : L2.St → XK) : L2.St → List V → Hp → VK → Prop := fun σ xs H Q => ∃ a dx fs, xs = [.ref a] ∧ H a = some (.ins C dx fs) ∧ sp [.ref a] H Q (E σ)
theorem call_ownAbs (S : Sm X.prog X.w X.K X.mg X.base C "__abs__" k ps sp) (hr : Room (k + 1) X.A) (hx : Ps X E) : CallS X (.builtin "abs") (rOwnC C sp E) := by
  intro pins s σ H xs us Q I r hq
  obtain ⟨f, fd, F, hs, hf, hb⟩ := S.ex
  obtain ⟨a, dx, fs, rfl, ha, q⟩ := hq
  obtain ⟨u, rfl, rx⟩ := vals1 r
  cases rx
  obtain ⟨_, _, J⟩ := inst_of I ha
  obtain ⟨m, hF⟩ := I.fr
  refine PySem.Calls.call_function_entry kind_abs plain_abs entry_abs (args_abs _) ?_
  unfold Builtin.«abs»
  refine wpAny_bind (m := oneArg "abs" _) (wpAny_pure ?_)
  refine wpAny_bind (m := callSpecial? (.ref a) (Str.ofString "__abs__")) (PySem.W.special_fn I.kIn J hs (beq_iff_eq.mp hf) (wpAny_mono (run_at0 (vs := [.ref a]) F hr.in1 rfl hb (hx σ) I (.cons rfl .nil) q) (fun r s' hr => ?_) fun _ _ y => y))
  exact wpAny_pure ⟨_, rfl, hr⟩
/-- len(x) by the text's own __len__ -/
def rOwnLen (C : Addr) (sp : Sp) (E : L2.St → XK) : L2.St → List V → Hp → VK → Prop := fun σ xs H Q => ∃ a dx fs, xs = [.ref a] ∧ H a = some (.ins C dx fs) ∧ sp [.ref a] H (fun v H' => ∃ n : Int, v = .int n ∧ 0 ≤ n ∧ n < 2 ^ 63 ∧ Q (.int n) H') (E σ)
theorem call_ownLen (S : Sm X.prog X.w X.K X.mg X.base C "__len__" k ps sp) (hr : Room (k + 1) X.A) (hx : Ps X E) : CallS X (.builtin "len") (rOwnLen C sp E) := by
  intro pins s σ H xs us Q I r hq
  obtain ⟨f, fd, F, hs, hf, hb⟩ := S.ex
  obtain ⟨a, dx, fs, rfl, ha, q⟩ := hq
  obtain ⟨u, rfl, rx⟩ := vals1 r
  cases rx
  obtain ⟨_, _, J⟩ := inst_of I ha
  obtain ⟨m, hF⟩ := I.fr
  refine PySem.W.len_K hF I.ok.mod.kin J hs hf ?_
  refine thn (run_at0 (vs := [.ref a]) F hr.in1 rfl hb (hx σ) I (.cons rfl .nil) q) fun r s' z => ?_
  obtain ⟨v, H', I', rv, n, rfl, h0, h1, q'⟩ := z
  obtain ⟨t, rfl⟩ := (show ∃ t, r = Value.int n t from rv)
  exact ⟨⟨h0, h1⟩, .int n, H', I'.tok _, ⟨_, rfl⟩, q'⟩
/-- the truth of x by the text's own __bool__ -/
theorem truthy_own {A : Around} {pins : List (Addr × Obj)} {σ : L2.St} {H : Hp} {s : Shared} {Q : Bool → Hp → Prop} {a dx : Addr} {fs : List (Str × V)} (S : Sm X.prog X.w X.K X.mg X.base C "__bool__" k ps sp) (hr : Room k A) (fr : A.frames = X.A.frames) (hx : Ps X E)
    (I : L2.Inv X pins σ H s) (ha : H a = some (.ins C dx fs)) (q : sp [.ref a] H (fun v H' => ∃ c, v = .bl c ∧ Q c H') (E σ)) : wpAny (model X.prog X.w) A (truthy (.ref a)) (TP X pins σ Q) X.xe s := by
  obtain ⟨f, fd, F, hs, hf, hb⟩ := S.ex
  obtain ⟨_, _, J⟩ := inst_of I ha
  obtain ⟨m, hF⟩ := I.fr
  refine PySem.W.truthy_K hF I.ok.mod.kin J hs hf ?_
  refine thn (run_at0 (vs := [.ref a]) F hr fr hb (hx σ) I (.cons rfl .nil) q) fun r s' z => ?_
  obtain ⟨v, H', I', rv, c, rfl, q'⟩ := z
  cases (show r = _ from rv)
  exact ⟨H', I', q'⟩
/-- bool(x) -/
def rOwnB (C : Addr) (sp : Sp) (E : L2.St → XK) : L2.St → List V → Hp → VK → Prop := fun σ xs H Q => ∃ a dx fs, xs = [.ref a] ∧ H a = some (.ins C dx fs) ∧ sp [.ref a] H (fun v H' => ∃ c, v = .bl c ∧ Q (.bl c) H') (E σ)
theorem call_ownBool (S : Sm X.prog X.w X.K X.mg X.base C "__bool__" k ps sp) (hr : Room (k + 2) X.A) (hx : Ps X E) : CallS X (.type "bool") (rOwnB C sp E) := by
  intro pins s σ H xs us Q I r hq
  obtain ⟨a, dx, fs, rfl, ha, q⟩ := hq
  obtain ⟨u, rfl, rx⟩ := vals1 r
  cases rx
  refine callType_newIn PySem.F.called_bool PySem.F.newNe_bool (PySem.F.typeCall_bool_1 _) (PySem.F.newCall_bool_1 _) (fun obj => PySem.F.args_object_init_2 obj _) PySem.F.entry_bool_new
    (S := fun A' R s' => A' = X.A.in1 ∧ s' = s ∧ R = wants (fun obj s₁ => s₁.TypeIs obj "bool" ∧ EP X pins σ Q obj s₁) X.xe) ?_ ⟨rfl, rfl, rfl⟩
  intro A' R s' h'
  obtain ⟨rfl, rfl, rfl⟩ := h'
  have f1 := PySem.F.conv_sub_bool
  unfold Builtin.«bool.__new__»
  have key := truthy_own (A := X.A.in1.in1) (Q := fun c H' => Q (.bl c) H') S (hr.in1.in1) rfl hx I ha q
  have key' : ∀ Q' : Bool → Shared → Prop, (∀ c s2, TP X pins σ (fun c H' => Q (.bl c) H') c s2 → Q' c s2) → wpAny (model X.prog X.w) X.A.in1.in1 (truthy (Value.ref a)) Q' X.xe s' := fun Q' h => thn key h
  have k2 : ∀ c s2, TP X pins σ (fun c H' => Q (.bl c) H') c s2 → (s2.TypeIs (.bool c) "bool" ∧ EP X pins σ Q (.bool c) s2) := fun c s2 z => by
    obtain ⟨H', I', q'⟩ := z
    exact ⟨rfl, .bl c, H', I', rfl, q'⟩
  clear key q I ha hx r
  obtain ⟨hp, g, d, tk, os⟩ := s'
  refine wpAny_bind ?_
  repeat (any_goals (first | assumption | ((with_reducible show wpAny _ _ (truthy _ >>= _) _ _ _); refine wpAny_bind (key' _ fun c s2 z => ?_)) | wp_step))
  all_goals exact k2 _ _ z
end
end GG

/-! GX: the text's errors (classes under GangError, whose __init__ stores the subject): raised, caught, asked. -/
namespace PySem
namespace GErr
open PySem.W PySem.Calls PyProof.Rows PySem.HandSPX
def iA (p1 p2 : Pos) : Arguments := { posonlyargs := [], args := [{ arg := "self", annotation := none, pos := p1 }, { arg := "subject", annotation := none, pos := p2 }], vararg := none, kwonlyargs := [], kw_defaults := [], kwarg := none, defaults := [] }
def iB (q1 q2 q3 q4 : Pos) : List Stmt := [.Assign [.Attribute (.Name "self" q1) "subject" q2] (.Name "subject" q3) q4]
def iS : Scope := { kind := .function, names := [(PySem.Str.ofString "self", .local), (PySem.Str.ofString "subject", .local)], isGenerator := false, isCoroutine := false, more := [] }
/-- what the written part says of the error class x, at C, whose __init__ is GangError's, at fI -/
structure ErrTxt (K : Frag) (mg : Str → Option Value) (x : Str) (C fI : Addr) : Prop where
  gC : mg x = some (.ref C)
  cls : ∃ nm q N bs bm sn sub ab col dd k0 k1 k2 k3 k5, K.lookup C = some (excClassObj nm q C N bs bm true sn sub ab col dd k0 k1 k2 k3 k5 "ValueError.__new__") ∧ refsVE bm = true
  sa : findIn K (.ref C) "__setattr__" = some (some (.builtin "object.__setattr__"))
  ga : findIn K (.ref C) "__getattribute__" = some (some (.builtin "BaseException.__getattribute__"))
  gg : findIn K (.ref C) "__getattr__" = some none
  noN : findIn K (.ref C) "subject" = some none
  iC : findIn K (.ref C) "__init__" = some (some (.ref fI))
  tC : typeIn K (.ref fI) = some (.type "function")
  kC : keepIn K (.ref C) = true
  exC : subIn K (.ref C) (.type "BaseException") = some true
  tyC : typeIn K (.ref C) = some (.type "type")
  hdC : hasDictIn K C = true
  haC : findIn K (.ref C) "__class__" = some (some (.builtin "object.__class__"))
  hnC : specialIn K (.builtin "object.__class__") "__get__" = some (some (.builtin "getset_descriptor.__get__"))
  htC : takesIn K (.builtin "object.__class__") = some true
  hmC : mroIn K C (.type "object") = some true
  fn : ∃ (oc : Value) (od : Option Addr) (doc pm : Value) (an : Option Addr) (cdv ct : Value) (osl : Array (Option Value)) (p1 p2 q1 q2 q3 q4 : Pos),
    K.lookup fI = some ⟨oc, od, .func (fnOf "__init__" "GangError.__init__" (iA p1 p2) (iB q1 q2 q3 q4) iS .none .none doc pm an cdv ct), osl⟩ ∧ codeIn K cdv "GangError.__init__" = true
theorem one_size (v : Value) : [v].length ≤ sizeLine := by
  rw [sizeLine_eq]
  exact (by decide : 1 ≤ 16777216)
theorem ldC {M : Model} {s : Shared} {name : Str} {scope : Scope} {L a : Addr} {cd : Value} {m : Str → Option Value} {x : Str} {pos : Pos} {v : Value} {Q : Value → Shared → Prop} {A : Around} {E : Value → Shared → Prop} (hn : s.heap.Ns L m) (hv : m x = some v) (h : Q v s)
    (hk : scope.kind = .function := by rfl) (hl : (envOfC name scope L a cd).kindOf x = some .local := by rfl) (hd : (x == ("__debug__" : Str)) = false := by decide) :
    wpAny M A (eval (.Name x pos) (envOfC name scope L a cd)) Q E s := wpAny_Name (wpAny_loadName_local hk hl hn hv h) hd
/-- what __init__ leaves of a fresh exception at x -/
structure InitEnd (h h' : Heap) (x C dx t1 : Addr) (v : Value) : Prop where
  keep : ∀ b o, b ≠ x → h.get? b = some o → h'.get? b = some o
  obj : h'.get? x = some { cls := .ref C, dict := some dx, data := .fields #[.ref t1, .none, .none, .none, .bool false, .none] }
  dbig : h.objs.size ≤ dx
  dne : dx ≠ x
  ns : h'.Ns1 dx (fun y => if y = "subject" then some v else none)
/-- a made error -/
structure OwnMade (h h' : Heap) (e C d : Addr) (v : Value) : Prop where
  keep : ∀ b o, h.get? b = some o → h'.get? b = some o
  new : h.objs.size ≤ e
  obj : ∃ oe vs, h'.get? e = some oe ∧ oe.cls = .ref C ∧ oe.dict = some d ∧ oe.data = .fields vs ∧ vs[1]? = some .none ∧ vs[2]? = some .none
  dbig : h.objs.size ≤ d
  dne : d ≠ e
  ns : h'.Ns1 d (fun y => if y = "subject" then some v else none)
section
variable {prog : Program} {w : World} {A : Around} {E : Value → Shared → Prop} {R : Result → Shared → Prop} {s : Shared} {K : Frag} {mg : Str → Option Value} {xn : Str} {C fI : Addr}
theorem err_init (T : ErrTxt K mg xn C fI) {x t0 : Addr} {v : Value} (X : K.In s.heap) (hlim : s.heap.NoLimit) (hx : s.heap.get? x = some (excO C t0)) (hnx : K.lookup x = none) (hroom : A.depth < recursionLimit)
    (hq : ∀ h' tk dx, InitEnd s.heap h' x C dx t0 v → R (.ok (.ret .none)) { s with heap := h', toks := tk }) :
    codeAny (model prog w) A (.call (.ref fI) ⟨[.ref x, v], []⟩) R s := by
  obtain ⟨oc, od, doc, pm, an, cdv, ct, osl, p1, p2, q1, q2, q3, q4, ho, hcd⟩ := T.fn
  obtain ⟨nm, q, N, bs, bm, sn, sub, ab, col, dd, k0, k1, k2, k3, k5, hC, hbm⟩ := T.cls
  have hcl : clsIn K C = some { name := nm, bases := bs, mro := .ref C :: bm, ns := N, qualname := q, hasDict := true, slotNames := sn, subclasses := sub, abstract := ab, collection := col, hasDel := false } := by unfold clsIn; rw [hC] <;> rfl
  refine Att.call_fn (binds := [("self", .ref x), ("subject", v)]) X hlim ho hcd hroom (BindsTo.of_eq (by first | rfl | with_unfolding_all rfl)) (by first | rfl | decide | with_unfolding_all rfl) (fun s₁ IC => ?_) rfl rfl rfl
  obtain ⟨h₁, tk₁, rfl⟩ := IC.toInCall.same
  have k : ∀ b o, s.heap.get? b = some o → h₁.get? b = some o := IC.toInCall.keep
  have hn := IC.toInCall.ns
  have hxL : s.heap.objs.size ≠ x := Nat.ne_of_gt (Heap.lt_size hx)
  have X₁ : K.In h₁ := X.keeps k
  have hx₁ := k _ _ hx
  show wpAny _ _ (execs _ _) _ _ _
  refine wpAny_execs_cons (plainObj_wpAny_Assign_Attribute ?_)
  refine ldC (v := v) hn (by first | rfl | with_unfolding_all rfl | kernel_rfl) (ldC (v := .ref x) hn (by first | rfl | with_unfolding_all rfl | kernel_rfl) ?_)
  refine set_plain X₁ (ox := excO C t0) (od := none) ⟨hx₁, rfl, rfl, trivial⟩ T.sa ?_
  refine exc_osa X₁ hx₁ hcl (show refsVE (.ref C :: bm) = true from hbm) rfl T.noN (fun h₃ tk₃ dx k₃ dn dne hx₃ hn₃ => ?_)
  show wpAny _ _ (execs _ _) _ _ _
  have z : s.heap.objs.size < h₁.objs.size := hn.lt
  exact wpAny_execs_nil (hq h₃ tk₃ dx ⟨fun b o hb e => k₃ b o hb (k b o e), hx₃, Nat.le_of_lt (Nat.lt_of_lt_of_le z dn), dne, hn₃⟩)
theorem err_made (T : ErrTxt K mg xn C fI) {v : Value} (X : K.In s.heap) (hlim : s.heap.NoLimit) (hroom : A.depth + 1 < recursionLimit)
    (hq : ∀ h' tk e d, OwnMade s.heap h' e C d v → R (.ok (.ret (.ref e))) { s with heap := h', toks := tk }) :
    codeAny (model prog w) A (.call (.ref C) ⟨[v], []⟩) R s := by
  obtain ⟨nm, q, N, bs, bm, sn, sub, ab, col, dd, k0, k1, k2, k3, k5, hC, hbm⟩ := T.cls
  obtain ⟨hp, g, dr, tk, os⟩ := s
  have k : ∀ b o, hp.get? b = some o → ((hp.push (kdv_tup [v])).push (excO C hp.objs.size)).get? b = some o := fun b o e => Heap.get?_push_of_some _ (Heap.get?_push_of_some _ e)
  have hget : ((hp.push (kdv_tup [v])).push (excO C hp.objs.size)).get? (hp.objs.size + 1) = some (excO C hp.objs.size) := by heap_get
  have hnx : K.lookup (hp.objs.size + 1) = none := by
    cases e : K.lookup (hp.objs.size + 1) with
    | none => rfl
    | some o =>
      have z : hp.get? (hp.objs.size + 1) = some o := X _ _ e
      exact absurd (Nat.lt_of_succ_lt (Heap.lt_size z)) (Nat.lt_irrefl _)
  refine call_own F.excBase_ValueError (fun X => refsVE_contains X bm hbm) (X _ _ hC) (looks_findIn X T.iC) (fun self => bind_fn X self T.tC) (one_size v) ?_
  refine err_init (s := ⟨(hp.push (kdv_tup [v])).push (excO C hp.objs.size), g, dr, tk, os⟩) T (X.keeps k) (hlim.keeps k) hget hnx ?_ fun h' tk' dx ⟨k', hx, dn, dne, hns⟩ => ?_
  · show A.depth + 1 < recursionLimit
    exact hroom
  · have old : ∀ b o, hp.get? b = some o → h'.get? b = some o := fun b o e => k' b o (Nat.ne_of_lt (Nat.lt_succ_of_lt (Heap.lt_size e))) (k b o e)
    have z : hp.objs.size + 1 + 1 ≤ dx := by
      first
        | (simpa only [Heap.size_push] using dn)
        | exact dn
        | (have q := dn; rw [Heap.size_push, Heap.size_push] at q; exact q)
    exact ⟨rfl, hq h' tk' (hp.objs.size + 1) dx ⟨old, Nat.le_succ _, ⟨_, _, hx, rfl, rfl, rfl, rfl, rfl⟩, Nat.le_trans (Nat.le_trans (Nat.le_succ _) (Nat.le_succ _)) z, dne, hns⟩⟩
end
end GErr
end PySem
namespace GG
open PySem L2 PyProof.Rows
abbrev subj (v : V) : List (Str × V) := [(("subject" : Str), v)]
theorem relO_subj {v : V} {v' : Value} (r : RelV v v') (f : Str) : RelO (List.lookup f (subj v)) (if f = "subject" then some v' else none) := by
  by_cases hw : f = "subject"
  · subst hw
    rw [if_pos rfl]
    have q : List.lookup ("subject" : Str) (subj v) = some v := by simp [List.lookup]
    rw [q]
    exact r
  · rw [if_neg hw]
    have qw : (f == ("subject" : Str)) = false := by simpa using hw
    have q2 : List.lookup f (subj v) = none := by simp [List.lookup, qw]
    rw [q2]
    trivial
section
variable {X : Cx} {C fI : Addr} {xn : Str}
/-- Err(e) -/
def tMkErr (C : Addr) (ta : TA) : L2.St → Hp → XK → Prop := fun σ H Q => ta σ H fun vs H1 => ∃ v, vs = [v] ∧ ∀ d, H1 d = none → Q (.ref C) (some d) (upd H1 d (.xd (subj v)))
theorem pmk_err {a : Expr} {ta : TA} {p pos : Pos} {k : Nat} (T : PySem.GErr.ErrTxt X.K X.mg xn C fI) (hr : Room k X.A) (ha : PA X [a] ta) (hg : Gl X xn := by rfl) (hdb : (xn == ("__debug__" : Str)) = false := by decide)
    (he : starEach (a :: []) X.env = (false, eval a X.env) :: starEach [] X.env := by rfl) (hpl : (backTo pos (starEach [] X.env)).any (·.1) = false := by rfl) :
    L2N.PMk X (.Call (.Name xn p) [a] [] pos) (tMkErr C ta) := by
  intro pins s σ H Q I h
  refine wpAny_Call_Name_kw (ld_glob I hg T.gC ?_ hdb)
  refine PySem.W.callWith_K (h₀ := X.base) I.ok.mod.kin T.kC (thn (ha.run pos pins s σ H _ I h) fun us s1 hh => ?_) he hpl
  obtain ⟨vs, H1, I1, r1, v, ev, q1⟩ := hh
  subst ev
  refine ⟨I1.kIn, ?_⟩
  cases r1 with
  | cons rv rn =>
    rename_i v' us'
    cases rn
    show wpAny _ _ (call (.ref C) [v']) _ _ _
    have hlim := I1.nolimit
    obtain ⟨hp, g, dr, tk, os⟩ := s1
    refine wpAny_call (PySem.GErr.err_made T I1.kIn hlim (by have := hr.dp; omega) fun h' tk' e d M => ?_)
    show L2N.MkP X pins σ Q (.ref e) ⟨h', g, dr, tk', os⟩
    obtain ⟨oe, fv, hoe, hc, hd, hdat, h1, h2⟩ := M.obj
    have hns := M.ns
    obtain ⟨G', g1, g2⟩ := restrict h' fun b => decide (b ≠ e)
    have gk : ∀ b, b ≠ e → G'.get? b = h'.get? b := fun b hb => g1 b (decide_eq_true hb)
    have ge : G'.get? e = none := g2 e (by simp)
    have old : ∀ b o, hp.get? b = some o → G'.get? b = some o := fun b o q => (gk b (Nat.ne_of_lt (Nat.lt_of_lt_of_le (Heap.lt_size q) M.new))).trans (M.keep b o q)
    have ob : ObjOk X.prog X.w (upd H1 d (.xd (subj v))) G' d (.xd (subj v)) :=
      ⟨_, hns.at (fun o q => (gk d M.dne).trans q), fun f => relO_subj rv f⟩
    have J : L2.Inv X pins σ (upd H1 d (.xd (subj v))) ⟨G', g, dr, tk', os⟩ := I1.laid (t' := tk') old M.dbig ob
    refine ⟨e, oe, fv, ⟨G', g, dr, tk', os⟩, _, .ref C, some d, rfl, J, fun b o q => ?_, ge, hoe, ⟨hc, hd, fun vs e => by rw [hdat] at e; cases e; exact h2⟩, hdat, h1, ?_, rfl, I1.bare, raises_own T.exC T.tyC, q1 d (I1.hok.fresh M.dbig)⟩
    · by_cases hb : b = e
      · have q' : G'.get? b = some o := q
        rw [hb, ge] at q'; cases q'
      · exact (gk b hb).symm.trans q
    · rw [upd_ne (Ne.symm M.dne)]
      exact I1.hok.fresh M.new
/-- raise Err(e) -/
def tRaiseErr (C : Addr) (W : WX) (ta : TA) : TS := fun _ σ H => tMkErr C ta σ H fun cls d H' => W cls d σ H'
theorem ps_raiseErr {a : Expr} {ta : TA} {W : WX} {p pos pos2 : Pos} {k : Nat} (T : PySem.GErr.ErrTxt X.K X.mg xn C fI) (hr : Room k X.A) (tk : L2N.Takes X W) (ha : PA X [a] ta) (hc : X.calm = true := by rfl) (hg : Gl X xn := by rfl) (hdb : (xn == ("__debug__" : Str)) = false := by decide)
    (he : starEach (a :: []) X.env = (false, eval a X.env) :: starEach [] X.env := by rfl) (hpl : (backTo pos (starEach [] X.env)).any (·.1) = false := by rfl) :
    PS X (.Raise (some (.Call (.Name xn p) [a] [] pos)) none pos2) (tRaiseErr C W ta) := L2N.ps_raise hc tk (pmk_err T hr ha hg hdb he hpl)
/-- e.subject, e the exception that the suite holds (at a; its class cls, its dict d) -/
def tSubj (K : PySem.W.Frag) (mg : Str → Option Value) (a : Addr) (cls : Value) (d : Option Addr) (te : TE) : TE := fun σ H Q => te σ H fun x H1 => x = .ref a ∧ ∃ (n : Str) (C fI dd : Addr) (v : V), cls = .ref C ∧ PySem.GErr.ErrTxt K mg n C fI ∧ d = some dd ∧ H1 dd = some (.xd (subj v)) ∧ Q v H1
theorem pe_subj (K : PySem.W.Frag) (mg : Str → Option Value) {a : Addr} {oe : Obj} {cls : Value} {d : Option Addr} {e : Expr} {te : TE} {pos : Pos} (hz : Zc cls d oe) (hf : ∃ vs, oe.data = .fields vs) (he : PE X e te) (hp : (a, oe) ∈ X.pn := by exact List.Mem.head _)
    (hb : attributeBase e "subject" X.env (eval e X.env) = eval e X.env := by rfl) (hK : X.K = K := by rfl) (hM : X.mg = mg := by rfl) :
    PE X (.Attribute e "subject" pos) (tSubj K mg a cls d te) := by
  subst hK
  subst hM
  refine ⟨fun pins s σ H Q I h => attr_of hb (thn (he.run pins s σ H _ I h) fun u s1 hh => ?_)⟩
  obtain ⟨x, H1, I1, rx, ex, n, C, fI, dd, v, ec, T, ed, ea, q⟩ := hh
  subst ex
  obtain rfl : u = Value.ref a := rx
  subst ec
  subst ed
  obtain ⟨ha, _⟩ := I1.pin (a, oe) (List.mem_append_left _ hp)
  obtain ⟨vs, hd⟩ := hf
  have hx : ObjOk X.prog X.w H1 s1.heap dd (.xd (subj v)) := I1.hok dd _ ea
  obtain ⟨mA, hns, hr⟩ := hx
  obtain ⟨od, ho, hl⟩ := lookIn_ns hns
  have l : List.lookup ("subject" : Str) (subj v) = some v := by simp [List.lookup]
  obtain ⟨u, hu, ru⟩ := RelO.some_of (v := v) (o := mA "subject") (by rw [← l]; exact hr "subject")
  have J : PySem.W.InstAt s1.heap a oe C (some od) := ⟨ha, hz.1, by unfold PySem.W.notCls; rw [hd] <;> rfl, by rw [hz.2]; exact ho⟩
  exact HandSPX.exc_get I1.kIn J T.ga T.gg T.exC (PySem.W.findObj_own T.hdC T.noN rfl (by rw [hl, hu])) (handed_of ru) ⟨v, H1, I1.tok _, ru, q⟩
/-- isinstance(e, c), e the exception that the suite holds -/
def rIsX (K : PySem.W.Frag) (mg : Str → Option Value) (a : Addr) (cls : Value) (d : Option Addr) : List V → Hp → VK → Prop := fun xs H Q =>
  ∃ (n : Str) (C fI dd : Addr) (v : V) (c : V) (cv : Value) (b : Bool), xs = [.ref a, c] ∧ cls = .ref C ∧ PySem.GErr.ErrTxt K mg n C fI ∧ d = some dd ∧ H dd = some (.xd (subj v)) ∧ ClsV c cv ∧ PySem.W.kitOne K (.ref C) cv = some b ∧ Q (.bl b) H
theorem call_isX (K : PySem.W.Frag) (mg : Str → Option Value) {a : Addr} {oe : Obj} {cls : Value} {d : Option Addr} (hz : Zc cls d oe) (hf : ∃ vs, oe.data = .fields vs) (hp : (a, oe) ∈ X.pn := by exact List.Mem.head _) (hK : X.K = K := by rfl) (hM : X.mg = mg := by rfl) : CallR X (.builtin "isinstance") (rIsX K mg a cls d) := by
  subst hK
  subst hM
  intro pins s σ H xs us Q I r h
  obtain ⟨n, C, fI, dd, v, c, cv, b, rfl, ec, T, ed, ea, hcv, hk, q⟩ := h
  subst ec
  subst ed
  obtain ⟨u1, u2, rfl, r1, r2⟩ := vals2 r
  cases r1
  have e2 := hcv.eq r2
  subst e2
  obtain ⟨hget, _⟩ := I.pin (a, oe) (List.mem_append_left _ hp)
  obtain ⟨vs, hd⟩ := hf
  have hx : ObjOk X.prog X.w H s.heap dd (.xd (subj v)) := I.hok dd _ ea
  obtain ⟨mA, hns, hr⟩ := hx
  obtain ⟨od, ho, hl⟩ := lookIn_ns hns
  have J : PySem.W.InstAt s.heap a oe C (some od) := ⟨hget, hz.1, by unfold PySem.W.notCls; rw [hd] <;> rfl, by rw [hz.2]; exact ho⟩
  have hcl : (PySem.W.clsIn X.K C).isSome = true := by
    obtain ⟨cd, hc, _⟩ := PySem.W.any_some T.hdC
    rw [hc]
    rfl
  exact PySem.W.kia_one (PySem.W.kitx_exc (x := a) (ox := oe) (od := some od) hcl T.ga T.gg T.exC T.haC T.hnC T.htC T.hmC) I.kIn J hk (fun z => nomatch z) fun tk => ⟨.bl b, H, I.tok tk, rfl, q⟩
/-! ### try .. except C as n: suite -/
theorem pss_imp {sts : List Stmt} {t t' : TS} (h : PSs X sts t) (hi : ∀ D σ H, t' D σ H → t D σ H) : PSs X sts t' := ⟨fun pins s σ H D I q => h.run pins s σ H D I (hi D σ H q)⟩
variable {x n : Str} {c : Value} {i : Nat} {body suite : List Stmt} {b₀ : Stmt} {np pos pos' : Pos} {tb : WX → List (Addr × Obj) → (Value → Shared → Prop) → TS} {ts : Addr → Obj → Value → Option Addr → List (Addr × Obj) → TS} {Wout : WX}
def tAll (ts : Addr → Obj → Value → Option Addr → List (Addr × Obj) → TS) : Addr → Value → Option Addr → TS := fun a cls d D σ H => ∀ oe pn, ts a oe cls d pn D σ H
/-- the try with its suite, as a reading -/
def tTryAs (K : PySem.W.Frag) (c : Value) (i : Nat) (ts : Addr → Obj → Value → Option Addr → List (Addr × Obj) → TS) (Wout : WX) (tb : WX → List (Addr × Obj) → (Value → Shared → Prop) → TS) : TS := fun D σ H => ∀ pn xe, tb (wAs K c i (tAll ts) Wout D) pn xe D σ H
def tTryOnly (K : PySem.W.Frag) (c : Value) (ts : Addr → Obj → Value → Option Addr → List (Addr × Obj) → TS) (Wout : WX) (tb : WX → List (Addr × Obj) → (Value → Shared → Prop) → TS) : TS := fun D σ H => ∀ pn xe, tb (wOnly K c (tAll ts) Wout D) pn xe D σ H
theorem ps_tryAs (hN : X.N.Nodup) (hi : X.N[i]? = some n) (hc : Names X x c) (tk : L2N.Takes X Wout)
    (hb : ∀ (W : WX) (pn : List (Addr × Obj)) (xe : Value → Shared → Prop), L2N.Takes (X.tr pn xe) W → PassesOwn (model X.prog X.w) X.A X.env xe → PSs (X.tr pn xe) body (tb W pn xe))
    (hsu : ∀ (a : Addr) (oe : Obj) (cls : Value) (d : Option Addr) (pn : List (Addr × Obj)), L2N.Zn cls d oe → (∃ vs, oe.data = .fields vs) → PSs (X.suite a ((a, oe) :: pn)) (b₀ :: suite) (ts a oe cls d pn))
    (hs : X.stack = X.env :: X.outer := by rfl) (hf : X.env.frame = some X.env.locals := by rfl) (hln : X.env.kindOf n = some .local := by rfl) :
    PS X (.Try body [.ExceptHandler (some (.Name x np)) (some n) (b₀ :: suite) pos'] [] [] pos) (tTryAs X.K c i ts Wout tb) :=
  L2N.ps_try_as (tb := fun W D σ H => ∀ pn xe, tb W pn xe D σ H) (ts := tAll ts) hs hf hN hi hln hc tk (fun W pn xe tk po => pss_imp (hb W pn xe tk po) fun D σ H q => q pn xe)
    fun a oe cls d pn hz hfs => pss_imp (hsu a oe cls d pn hz hfs) fun D σ H q => q oe pn
theorem ps_tryOnly (hc : Names X x c) (tk : L2N.Takes X Wout)
    (hb : ∀ (W : WX) (pn : List (Addr × Obj)) (xe : Value → Shared → Prop), L2N.Takes (X.tr pn xe) W → PassesOwn (model X.prog X.w) X.A X.env xe → PSs (X.tr pn xe) body (tb W pn xe))
    (hsu : ∀ (a : Addr) (oe : Obj) (cls : Value) (d : Option Addr) (pn : List (Addr × Obj)), L2N.Zn cls d oe → (∃ vs, oe.data = .fields vs) → PSs (X.suite a ((a, oe) :: pn)) (b₀ :: suite) (ts a oe cls d pn))
    (hs : X.stack = X.env :: X.outer := by rfl) (hf : X.env.frame = some X.env.locals := by rfl) :
    PS X (.Try body [.ExceptHandler (some (.Name x np)) none (b₀ :: suite) pos'] [] [] pos) (tTryOnly X.K c ts Wout tb) :=
  L2N.ps_try_many (tb := fun W D σ H => ∀ pn xe, tb W pn xe D σ H) (l := [(c, tAll ts)]) hs hf tk (fun W pn xe tk po => pss_imp (hb W pn xe tk po) fun D σ H q => q pn xe)
    (.cons hc (fun a oe cls d pn hz hfs => pss_imp (hsu a oe cls d pn hz hfs) fun D σ H q => q oe pn) .nil)
end
end GG

/-! GS: rules for any operands (u_*), and the readings step by step, backwards (st_*). -/
namespace GG
open PySem L2 PyProof.Rows

/-! ### rules for any operands -/
def CM (i j : Int) : Prop := IntMulOk i j
theorem CM.left {i j : Int} (h1 : -(2 ^ 64) < i) (h2 : i < 2 ^ 64) : CM i j := IntMulOk.of_left (intBits_le_64 h1 h2)
theorem CM.right {i j : Int} (h1 : -(2 ^ 64) < j) (h2 : j < 2 ^ 64) : CM i j := IntMulOk.of_right (intBits_le_64 h1 h2)
theorem CM.wide {i j : Int} {a b : Nat} (ha : i.natAbs < 2 ^ a) (hb : j.natAbs < 2 ^ b) (h : a + b ≤ 900000) : CM i j :=
  (wide_mul (a := a + 1) (b := b + 1) (Nat.lt_of_lt_of_le ha (Nat.pow_le_pow_right (by decide) (Nat.le_succ a))) (Nat.lt_of_lt_of_le hb (Nat.pow_le_pow_right (by decide) (Nat.le_succ b))) (Nat.succ_pos _) (Nat.succ_pos _) (by omega)).ok
def CD (_ j : Int) : Prop := j ≠ 0 ∧ j.natAbs.log2 < 9000
def uAdd (K : PySem.W.Frag) : R2 := fun x y H Q => (rI0 fun i j => .int (i + j)) x y H Q ∨ ((∃ i j, x = .str i ∧ y = .str j ∧ i.length + j.length ≤ sizeLine ∧ Q (.str (i ++ j)) H) ∨ (rCat x y H Q ∨ rCatT K x y H Q))
def uMul : R2 := fun x y H Q => (rI CM fun i j => .int (i * j)) x y H Q ∨ rRep x y H Q
def uSub : R2 := rI0 fun i j => .int (i - j)
def uFdiv : R2 := rI CD fun i j => .int (i.fdiv j)
def uMod : R2 := rI (fun _ j => j ≠ 0) fun i j => .int (i.fmod j)
def uPow : R2 := rI CPow fun i j => .int (i ^ j.toNat)
def uEq (K : PySem.W.Frag) : R2 := fun x y H Q => rEq x y H Q ∨ rEqD K x y H Q
def uNe (K : PySem.W.Frag) : R2 := fun x y H Q => rNe x y H Q ∨ rNeD K x y H Q
def uLt : R2 := rI0 fun i j => .bl (decide (i < j))
def uLe : R2 := rI0 fun i j => .bl (decide (i ≤ j))
def uGt : R2 := rI0 fun i j => .bl (decide (j < i))
def uGe : R2 := rI0 fun i j => .bl (decide (j ≤ i))
def uIn (K : PySem.W.Frag) : R2 := rIn K false
def uNotin (K : PySem.W.Frag) : R2 := rIn K true
def uIx (K : PySem.W.Frag) : R2 := rIx K
def uSet : TSet := rSetL
def cInt : List V → Hp → VK → Prop := fun xs H Q => ((∃ i, xs = [.int i] ∧ Q (.int i) H) ∨ ∃ k, xs = [.bl k] ∧ Q (.int (if k then 1 else 0)) H)
def cLen (K : PySem.W.Frag) : List V → Hp → VK → Prop := fun xs H Q => ∃ x n, xs = [x] ∧ LenV K x H n ∧ Q (.int n) H
def cBool : List V → Hp → VK → Prop := fun xs H Q => (∃ i, xs = [.int i] ∧ Q (.bl (i != 0)) H) ∨ ∃ k, xs = [.bl k] ∧ Q (.bl k) H
section
variable {X : Cx}
theorem u_add (K : PySem.W.Frag) (hK : X.K = K := by rfl) : OpR X (binaryOp .Add) (uAdd K) := by subst hK; exact op_add.or (op_add_str.or (op_cat.or op_catT))
theorem u_sub : OpR X (binaryOp .Sub) uSub := op_sub
theorem u_mul : OpR X (binaryOp .Mult) uMul := OpR.or (opI fun _ _ _ _ _ _ _ hc q => mul_int q hc) op_rep
theorem u_fdiv : OpR X (binaryOp .FloorDiv) uFdiv := opI fun _ _ _ _ _ _ _ hc q => floordiv_int hc.1 q (.inl (PyProof.noPylong_of_log2 hc.2))
theorem u_mod : OpR X (binaryOp .Mod) uMod := op_modN
theorem u_pow : OpR X (binaryOp .Pow) uPow := op_pow
theorem u_eq (K : PySem.W.Frag) (hu : X.A.units + 64 < cLine) (hK : X.K = K := by rfl) : OpR X (compareOp .Eq) (uEq K) := by subst hK; exact op_eq.or (op_eqD hu)
theorem u_ne (K : PySem.W.Frag) (hu : X.A.units + 64 < cLine) (hK : X.K = K := by rfl) : OpR X (compareOp .NotEq) (uNe K) := by subst hK; exact op_ne.or (op_neD hu)
theorem u_lt : OpR X (compareOp .Lt) uLt := op_lt
theorem u_le : OpR X (compareOp .LtE) uLe := op_le
theorem u_gt : OpR X (compareOp .Gt) uGt := op_gt
theorem u_ge : OpR X (compareOp .GtE) uGe := op_ge
theorem u_in (K : PySem.W.Frag) (hK : X.K = K := by rfl) : OpR X (compareOp .In) (uIn K) := by subst hK; exact op_in_seq
theorem u_notin (K : PySem.W.Frag) (hK : X.K = K := by rfl) : OpR X (compareOp .NotIn) (uNotin K) := by subst hK; exact op_notIn_seq
theorem u_ix (K : PySem.W.Frag) (hK : X.K = K := by rfl) : IxR X (uIx K) := by subst hK; exact ix_seq
theorem u_set : PSet X uSet := set_list
theorem c_int : CallR X (.type "int") cInt := call_int1
theorem c_len (K : PySem.W.Frag) (hK : X.K = K := by rfl) : CallR X (.builtin "len") (cLen K) := by subst hK; exact call_len
theorem c_bool : CallR X (.type "bool") cBool := call_bool1
section
variable (K : PySem.W.Frag) {e o value tg : Expr} {f : Str} {pos pos' : Pos} {ta tv : TE} {T : String} {as : TA} {r : V → List V → Hp → VK → Prop} {st : Stmt} {n : Nat} {gs : TGs}
theorem pe_fldK (h : PE X e (tFld X.K ta f)) (hK : X.K = K := by rfl) : PE X e (tFld K ta f) := by subst hK; exact h
theorem ps_fldK (h : PS X st (sFld X.K ta tv f)) (hK : X.K = K := by rfl) : PS X st (sFld K ta tv f) := by subst hK; exact h
theorem pe_bmK (h : PE X e (tBM X.K T r ta as)) (hK : X.K = K := by rfl) : PE X e (tBM K T r ta as) := by subst hK; exact h
theorem pe_bm0K (h : PE X e (tBM0 X.K T r ta)) (hK : X.K = K := by rfl) : PE X e (tBM0 K T r ta) := by subst hK; exact h
theorem pi_listK (h : PI X tg e (iList X.K ta)) (hK : X.K = K := by rfl) : PI X tg e (iList K ta) := by subst hK; exact h
theorem pi_tupK (h : PI X tg e (iTup X.K ta)) (hK : X.K = K := by rfl) : PI X tg e (iTup K ta) := by subst hK; exact h
theorem pg_tupK (h : PG X e (gTup X.K n gs)) (hK : X.K = K := by rfl) : PG X e (gTup K n gs) := by subst hK; exact h
theorem pe_lcV (vs : List Nat) {ws : List Nat} {wi : TI} {g : TG} {tt : TT} {te : TE} (h : PE X e (tLc wi g tt te ws)) (hv : ws = vs := by rfl) : PE X e (tLc wi g tt te vs) := by subst hv; exact h
theorem ps_lcV (vs : List Nat) {ws : List Nat} {wi : TI} {g : TG} {tt : TT} {te : TE} (h : PS X st (tAsg (tLc wi g tt te ws) (gName n))) (hv : ws = vs := by rfl) : PS X st (tAsg (tLc wi g tt te vs) (gName n)) := by subst hv; exact h
theorem c_isi (hK : X.K = K := by rfl) : CallR X (.builtin "isinstance") (rIsi K) := by subst hK; exact call_isi
end
theorem m_append : MtR X "list.append" rAppend := mt_append
theorem m_popAt : MtR X "list.pop" rPopAt := mt_popAt
theorem m_pop : MtR X "list.pop" rPop := mt_pop
end

/-! ### heaps: Ext (grown), But l (grown, the object at l changed) -/
def Ext (H H' : Hp) : Prop := ∀ a o, H a = some o → H' a = some o
def But (l : Addr) (H H' : Hp) : Prop := ∀ a o, a ≠ l → H a = some o → H' a = some o
theorem Ext.rfl {H : Hp} : Ext H H := fun _ _ h => h
theorem Ext.trans {H H1 H2 : Hp} (a : Ext H H1) (b : Ext H1 H2) : Ext H H2 := fun x o h => b x o (a x o h)
theorem Ext.look {H H' : Hp} {a : Addr} {o : HO} (e : Ext H H') (h : H a = some o) : H' a = some o := e a o h
theorem Ext.new {H : Hp} {p : Addr} {o : HO} (h : H p = none) : Ext H (upd H p o) := fun a u e => by rw [upd_ne (ne_of_none e h)]; exact e
theorem Ext.free {H H' : Hp} (e : Ext H H') {l : Addr} (h : H' l = Option.none) : H l = Option.none := Same.free e h
theorem Ext.but {H H' : Hp} {l : Addr} (e : Ext H H') : But l H H' := fun a o _ h => e a o h
theorem But.rfl {H : Hp} {l : Addr} : But l H H := fun _ _ _ h => h
theorem But.trans {H H1 H2 : Hp} {l : Addr} (a : But l H H1) (b : But l H1 H2) : But l H H2 := fun x o n h => b x o n (a x o n h)
theorem But.look {H H' : Hp} {l a : Addr} {o : HO} (e : But l H H') (n : a ≠ l) (h : H a = some o) : H' a = some o := e a o n h
/-- .. where the two objects are of unlike kinds -/
theorem But.lookK {H H' : Hp} {l a : Addr} {o u : HO} (e : But l H H') (hl : H l = some u) (h : H a = some o) (n : o ≠ u) : H' a = some o := e a o (ne_of h hl n) h
theorem But.upd {H : Hp} {l : Addr} {o : HO} : But l H (L2.upd H l o) := fun a u n e => by rw [upd_ne n]; exact e
/-- what is new behind l's change -/
theorem But.ext {H0 H H' : Hp} {l : Addr} (e : But l H H') (e0 : Ext H0 H) (h : H0 l = none) : Ext H0 H' := fun a o q => e a o (ne_of_none q h) (e0 a o q)
theorem But.exts {H H1 H2 : Hp} {l : Addr} (a : But l H H1) (b : Ext H1 H2) : But l H H2 := a.trans b.but
theorem Ext.buts {H H1 H2 : Hp} {l : Addr} (a : Ext H H1) (b : But l H1 H2) : But l H H2 := a.but.trans b
theorem Ext.sq {K : PySem.W.Frag} {H H' : Hp} {a : Addr} {xs : List V} (e : Ext H H') (h : SqL K H a xs) : SqL K H' a xs := Same.seq e h

/-! ### statements, run with their four ends -/
def Run (t : TS) (nx : L2.St → Hp → Prop) (rt : VK) (bk ct : L2.St → Hp → Prop) (σ : L2.St) (H : Hp) : Prop := t ⟨nx, rt, bk, ct⟩ σ H
abbrev NoE : L2.St → Hp → Prop := fun _ _ => False
section
variable {K : PySem.W.Frag} {nx bk ct : L2.St → Hp → Prop} {rt : VK} {σ : L2.St} {H : Hp} {t u : TS} {te ta tb tc : TE} {tt tu : TT} {as : TA} {Q : VK} {QB : Bool → Hp → Prop} {QA : List V → Hp → Prop} {v x y : V} {E : L2.St → XK} {sp : Sp} {D : Ends}
theorem run_of (h : Run t D.nx D.rt D.bk D.ct σ H) : t D σ H := h
theorem run_start {σ' : L2.St} (e : σ' = σ) (h : Run t (fun _ H' => Q .non H') Q NoE NoE σ H) : t { nx := fun _ H' => Q .non H', rt := Q } σ' H := by
  subst e
  exact h
theorem run_seq (h : Run t (fun σ' H' => Run u nx rt bk ct σ' H') rt bk ct σ H) : Run (tSeq t u) nx rt bk ct σ H := h
theorem run_next (h : nx σ H) : Run tNext nx rt bk ct σ H := h
theorem run_asg {i : Nat} (h : te σ H fun x H1 => nx (σ.set i (some x)) H1) : Run (tAsg te (gName i)) nx rt bk ct σ H := h
theorem run_asgG {g : TG} (h : te σ H fun x H1 => g x σ H1 nx) : Run (tAsg te g) nx rt bk ct σ H := h
theorem run_drop (h : te σ H fun _ H1 => nx σ H1) : Run (tDrop te) nx rt bk ct σ H := h
theorem run_ret (h : te σ H rt) : Run (tRet te) nx rt bk ct σ H := h
theorem run_retN (h : rt .non H) : Run tRetN nx rt bk ct σ H := h
theorem run_break (h : bk σ H) : Run tBreak nx rt bk ct σ H := h
theorem run_cont (h : ct σ H) : Run tCont nx rt bk ct σ H := h
/-- the two ways of a test -/
def Br (b : Bool) (A B : Prop) : Prop := if b = true then A else B
theorem run_ifS (h : tt σ H fun b H1 => Br b (Run t nx rt bk ct σ H1) (Run u nx rt bk ct σ H1)) : Run (tIfS tt t u) nx rt bk ct σ H := h
theorem br_t {A B : Prop} (h : A) : Br true A B := iteT h
theorem br_f {A B : Prop} (h : B) : Br false A B := iteF h
theorem br_d {p A B : Prop} [Decidable p] (h1 : p → A) (h2 : ¬ p → B) : Br (decide p) A B := by
  by_cases h : p
  · rw [decide_eq_true h]; exact br_t (h1 h)
  · rw [decide_eq_false h]; exact br_f (h2 h)
theorem br_nd {p A B : Prop} [Decidable p] (h1 : ¬ p → A) (h2 : p → B) : Br (!decide p) A B := by
  by_cases h : p
  · rw [decide_eq_true h]; exact br_f (h2 h)
  · rw [decide_eq_false h]; exact br_t (h1 h)
theorem br_b {b : Bool} {A B : Prop} (h1 : b = true → A) (h2 : b = false → B) : Br b A B := by
  cases b with
  | true => exact br_t (h1 rfl)
  | false => exact br_f (h2 rfl)
theorem br_not {b : Bool} {A B : Prop} (h : Br b B A) : Br (!b) A B := by
  cases b with
  | true => exact h
  | false => exact h
/-! ### expressions -/
theorem st_var {i : Nat} (h : σ[i]? = some (some v)) (q : Q v H) : tVar i σ H Q := ⟨v, h, q⟩
theorem st_c (q : Q v H) : tC v σ H Q := q
theorem st_op {r : R2} (h : ta σ H fun x H1 => tb σ H1 fun y H2 => r x y H2 Q) : tOp r ta tb σ H Q := h
theorem st_opS {r : R2S} (h : ta σ H fun x H1 => tb σ H1 fun y H2 => r σ x y H2 Q) : tOpS r ta tb σ H Q := h
theorem st_un {r : V → Hp → VK → Prop} (h : ta σ H fun x H1 => r x H1 Q) : tUn r ta σ H Q := h
theorem st_unS {r : L2.St → V → Hp → VK → Prop} (h : ta σ H fun x H1 => r σ x H1 Q) : tUnS r ta σ H Q := h
theorem st_nil (h : QA [] H) : tNil σ H QA := h
theorem st_cons {tr : TA} (h : ta σ H fun x H1 => tr σ H1 fun xs H2 => QA (x :: xs) H2) : tCons ta tr σ H QA := h
theorem st_cb {r : List V → Hp → VK → Prop} (h : as σ H fun vs H1 => r vs H1 Q) : tCB r as σ H Q := h
theorem st_cbS {r : L2.St → List V → Hp → VK → Prop} (h : as σ H fun vs H1 => r σ vs H1 Q) : tCBS r as σ H Q := h
theorem st_fn {dvs : List V} (h : as σ H fun vs H1 => sp (vs ++ dvs) H1 Q (E σ)) : tCallSD sp dvs E as σ H Q := h
/-- a new tuple, a new list -/
def rTup (xs : List V) (H : Hp) (Q : VK) : Prop := xs.length ≤ sizeLine ∧ ∀ p, H p = none → Q (.ref p) (upd H p (.tup xs))
def rLst (xs : List V) (H : Hp) (Q : VK) : Prop := xs.length ≤ sizeLine ∧ ∀ p, H p = none → Q (.ref p) (upd H p (.lst xs))
theorem st_tup (h : as σ H fun xs H1 => rTup xs H1 Q) : tTup as σ H Q := h
theorem st_lst (h : as σ H fun xs H1 => rLst xs H1 Q) : tLst as σ H Q := h
theorem r_tup {xs : List V} (hz : xs.length ≤ 1000) (h : ∀ p H2, H p = none → Ext H H2 → H2 p = some (.tup xs) → Q (.ref p) H2) : rTup xs H Q := ⟨Nat.le_trans hz (by decide), fun p hp => h p _ hp (Ext.new hp) upd_same⟩
theorem r_lst {xs : List V} (hz : xs.length ≤ 1000) (h : ∀ p H2, H p = none → Ext H H2 → H2 p = some (.lst xs) → Q (.ref p) H2) : rLst xs H Q := ⟨Nat.le_trans hz (by decide), fun p hp => h p _ hp (Ext.new hp) upd_same⟩
/-- e.f -/
def rFld (K : PySem.W.Frag) (f : Str) (x : V) (H : Hp) (Q : VK) : Prop := ∃ a C dx fs v, x = .ref a ∧ H a = some (.ins C dx fs) ∧ Cls K C ∧ NoAttr K C f ∧ fs.lookup f = some v ∧ Q v H
theorem st_fld {f : Str} (h : ta σ H fun x H1 => rFld K f x H1 Q) : tFld K ta f σ H Q := h
theorem r_fld {f : Str} {a C dx : Addr} {fs : List (Str × V)} (h : H a = some (.ins C dx fs)) (c : Cls K C) (n : NoAttr K C f) (l : fs.lookup f = some v) (q : Q v H) : rFld K f (.ref a) H Q := ⟨a, C, dx, fs, v, rfl, h, c, n, l, q⟩
/-- e.f = v -/
def rPutF (K : PySem.W.Frag) (f : Str) (x y : V) (H : Hp) (k : Hp → Prop) : Prop := ∃ a C dx fs, x = .ref a ∧ H a = some (.ins C dx fs) ∧ Cls K C ∧ NoAttr K C f ∧ fs.length < 1000 ∧ k (upd H a (.ins C dx (putF f y fs)))
theorem run_fld {f : Str} (h : tb σ H fun y H1 => ta σ H1 fun x H2 => rPutF K f x y H2 (nx σ)) : Run (sFld K ta tb f) nx rt bk ct σ H := h
theorem r_putF {f : Str} {a C dx : Addr} {fs : List (Str × V)} {k : Hp → Prop} (h : H a = some (.ins C dx fs)) (c : Cls K C) (n : NoAttr K C f) (l : fs.length < 1000) (q : k (upd H a (.ins C dx (putF f y fs)))) : rPutF K f (.ref a) y H k := ⟨a, C, dx, fs, rfl, h, c, n, l, q⟩
/-- a test -/
def rTest (x : V) (H : Hp) (QB : Bool → Hp → Prop) : Prop := ∃ k, x = .bl k ∧ QB k H
theorem st_test (h : te σ H fun x H' => rTest x H' QB) : tTest te σ H QB := h
theorem r_test {k : Bool} (h : QB k H) : rTest (.bl k) H QB := ⟨k, rfl, h⟩
def rTru (K : PySem.W.Frag) (x : V) (H : Hp) (QB : Bool → Hp → Prop) : Prop := ∃ k, TruV K x H k ∧ QB k H
theorem st_tru (h : te σ H fun x H' => rTru K x H' QB) : (fun (σ : L2.St) H (Q : Bool → Hp → Prop) => te σ H fun x H' => ∃ k, TruV K x H' k ∧ Q k H') σ H QB := h
theorem r_truB {k : Bool} (h : QB k H) : rTru K (.bl k) H QB := ⟨k, rfl, h⟩
theorem st_not (h : tt σ H fun c H1 => QB (!c) H1) : tNot tt σ H QB := h
theorem st_and (h : tt σ H fun c H1 => Br c (tu σ H1 QB) (QB false H1)) : tAnd tt tu σ H QB := h
theorem st_or (h : tt σ H fun c H1 => Br c (QB true H1) (tu σ H1 QB)) : tOr tt tu σ H QB := h
def rAndV (tb : TE) (σ : L2.St) (x : V) (H : Hp) (Q : VK) : Prop := ∃ c, x = .bl c ∧ if c = true then tb σ H Q else Q (.bl false) H
def rOrV (tb : TE) (σ : L2.St) (x : V) (H : Hp) (Q : VK) : Prop := ∃ c, x = .bl c ∧ if c = true then Q (.bl true) H else tb σ H Q
theorem st_andV (h : ta σ H fun x H1 => rAndV tb σ x H1 Q) : tAndV ta tb σ H Q := h
theorem st_orV (h : ta σ H fun x H1 => rOrV tb σ x H1 Q) : tOrV ta tb σ H Q := h
theorem r_andV {c : Bool} (h : Br c (tb σ H Q) (Q (.bl false) H)) : rAndV tb σ (.bl c) H Q := ⟨c, rfl, h⟩
theorem r_orV {c : Bool} (h : Br c (Q (.bl true) H) (tb σ H Q)) : rOrV tb σ (.bl c) H Q := ⟨c, rfl, h⟩
def rNotV (x : V) (H : Hp) (Q : VK) : Prop := ∃ c, x = .bl c ∧ Q (.bl (!c)) H
theorem st_notV (h : ta σ H fun x H1 => rNotV x H1 Q) : tNotV ta σ H Q := h
theorem r_notV {c : Bool} (h : Q (.bl (!c)) H) : rNotV (.bl c) H Q := ⟨c, rfl, h⟩
theorem st_ifE (h : tt σ H fun c H1 => Br c (ta σ H1 Q) (tb σ H1 Q)) : tIf tt ta tb σ H Q := h
def rChain (r' : R2) (tc : TE) (σ : L2.St) (y z : V) (H : Hp) (Q : VK) : Prop := ∃ k, z = .bl k ∧ (if k = true then tc σ H fun w' H4 => r' y w' H4 Q else Q (.bl false) H)
theorem st_chain {r r' : R2} (h : ta σ H fun x H1 => tb σ H1 fun y H2 => r x y H2 fun z H3 => rChain r' tc σ y z H3 Q) : tChain r r' ta tb tc σ H Q := h
theorem r_chain {r' : R2} {k : Bool} (h : Br k (tc σ H fun w' H4 => r' y w' H4 Q) (Q (.bl false) H)) : rChain r' tc σ y (.bl k) H Q := ⟨k, rfl, h⟩
/-! ### the operators on values -/
variable {i j : Int}
theorem v_add (q : Q (.int (i + j)) H) : uAdd K (.int i) (.int j) H Q := .inl ⟨i, j, rfl, rfl, q⟩
theorem v_addS {i j : Str} (hz : i.length + j.length ≤ 1000000) (q : Q (.str (i ++ j)) H) : uAdd K (.str i) (.str j) H Q := .inr (.inl ⟨i, j, rfl, rfl, Nat.le_trans hz (by decide), q⟩)
theorem v_addL {a b : Addr} {xs ys : List V} (ha : H a = some (.lst xs)) (hb : H b = some (.lst ys)) (hz : xs.length + ys.length ≤ 1000000) (q : ∀ p H2, H p = none → Ext H H2 → H2 p = some (.lst (xs ++ ys)) → Q (.ref p) H2) : uAdd K (.ref a) (.ref b) H Q :=
  .inr (.inr (.inl ⟨a, b, xs, ys, rfl, rfl, ha, hb, Nat.le_trans hz (by decide), fun p hp => q p _ hp (Ext.new hp) upd_same⟩))
theorem v_sub (q : Q (.int (i - j)) H) : uSub (.int i) (.int j) H Q := ⟨i, j, rfl, rfl, q⟩
theorem v_mul (hc : CM i j) (q : Q (.int (i * j)) H) : uMul (.int i) (.int j) H Q := .inl ⟨i, j, rfl, rfl, hc, q⟩
theorem v_fdiv (hc : CD i j) (q : Q (.int (i.fdiv j)) H) : uFdiv (.int i) (.int j) H Q := ⟨i, j, rfl, rfl, hc, q⟩
theorem v_mod (hc : 0 < j) (q : Q (.int (i % j)) H) : uMod (.int i) (.int j) H Q := ⟨i, j, rfl, rfl, by omega, by show Q (.int (i.fmod j)) H; rw [Int.fmod_eq_emod_of_nonneg i (by omega)]; exact q⟩
theorem v_modN (hc : j ≠ 0) (q : Q (.int (i.fmod j)) H) : uMod (.int i) (.int j) H Q := ⟨i, j, rfl, rfl, hc, q⟩
theorem v_pow (hc : CPow i j) (q : Q (.int (i ^ j.toNat)) H) : uPow (.int i) (.int j) H Q := ⟨i, j, rfl, rfl, hc, q⟩
theorem v_lt (q : Q (.bl (decide (i < j))) H) : uLt (.int i) (.int j) H Q := ⟨i, j, rfl, rfl, q⟩
theorem v_le (q : Q (.bl (decide (i ≤ j))) H) : uLe (.int i) (.int j) H Q := ⟨i, j, rfl, rfl, q⟩
theorem v_gt (q : Q (.bl (decide (j < i))) H) : uGt (.int i) (.int j) H Q := ⟨i, j, rfl, rfl, q⟩
theorem v_ge (q : Q (.bl (decide (j ≤ i))) H) : uGe (.int i) (.int j) H Q := ⟨i, j, rfl, rfl, q⟩
theorem dec_congr {p q : Prop} [Decidable p] [Decidable q] (h : p ↔ q) : decide p = decide q := by
  by_cases c : p
  · rw [decide_eq_true c, decide_eq_true (h.mp c)]
  · rw [decide_eq_false c, decide_eq_false (fun z => c (h.mpr z))]
theorem v_eq (q : Q (.bl (decide (i = j))) H) : uEq K (.int i) (.int j) H Q := .inl ⟨rfl, by rw [dec_congr (q := i = j) ⟨fun h => V.int.inj h, fun h => by rw [h]⟩]; exact q⟩
theorem v_ne (q : Q (.bl (!decide (i = j))) H) : uNe K (.int i) (.int j) H Q := .inl ⟨rfl, by rw [dec_congr (q := i = j) ⟨fun h => V.int.inj h, fun h => by rw [h]⟩]; exact q⟩
theorem v_eqB {i j : Bool} (q : Q (.bl (decide (i = j))) H) : uEq K (.bl i) (.bl j) H Q := .inl ⟨rfl, by rw [dec_congr (q := i = j) ⟨fun h => V.bl.inj h, fun h => by rw [h]⟩]; exact q⟩
theorem v_neB {i j : Bool} (q : Q (.bl (!decide (i = j))) H) : uNe K (.bl i) (.bl j) H Q := .inl ⟨rfl, by rw [dec_congr (q := i = j) ⟨fun h => V.bl.inj h, fun h => by rw [h]⟩]; exact q⟩
theorem v_eqS {i j : Str} (q : Q (.bl (decide (i = j))) H) : uEq K (.str i) (.str j) H Q := .inl ⟨rfl, by rw [dec_congr (q := i = j) ⟨fun h => V.str.inj h, fun h => by rw [h]⟩]; exact q⟩
theorem v_neS {i j : Str} (q : Q (.bl (!decide (i = j))) H) : uNe K (.str i) (.str j) H Q := .inl ⟨rfl, by rw [dec_congr (q := i = j) ⟨fun h => V.str.inj h, fun h => by rw [h]⟩]; exact q⟩
/-- two tuples of two ints -/
theorem v_eqT2 {a b : Addr} {i j k l : Int} (ha : H a = some (.tup [.int i, .int j])) (hb : H b = some (.tup [.int k, .int l])) (q : Q (.bl (decide (i = k ∧ j = l))) H) : uEq K (.ref a) (.ref b) H Q := by
  refine .inr ⟨.tuple [.int i, .int j], .tuple [.int k, .int l], .tup (SqT.of ha) (.cons (.int _) (.cons (.int _) .nil)), .tup (SqT.of hb) (.cons (.int _) (.cons (.int _) .nil)), rfl, rfl, ?_⟩
  have e : PyData.eqv (.tuple [.int i, .int j]) (.tuple [.int k, .int l]) = decide (i = k ∧ j = l) := by
    rw [Bool.eq_iff_iff]
    simp [PyData.eqv, PyData.eqvAll]
  rw [e]
  exact q
theorem v_ixL {a : Addr} {xs : List V} {z : Int} (ha : H a = some (.lst xs)) (hz : 0 ≤ z) (h : xs[z.toNat]? = some v) (q : Q v H) : uIx K (.ref a) (.int z) H Q :=
  .inl ⟨a, xs, z, v, rfl, rfl, SqL.of ha, at_of (Int.toNat_of_nonneg hz).symm h, q⟩
theorem v_ixT {a : Addr} {xs : List V} {z : Int} (ha : H a = some (.tup xs)) (hz : 0 ≤ z) (h : xs[z.toNat]? = some v) (q : Q v H) : uIx K (.ref a) (.int z) H Q :=
  .inr (.inl ⟨a, xs, z, v, rfl, rfl, SqT.of ha, at_of (Int.toNat_of_nonneg hz).symm h, q⟩)
theorem v_neg (q : Q (.int (-i)) H) : (rU fun i => .int (-i)) (.int i) H Q := ⟨i, rfl, q⟩
theorem v_int (q : Q (.int i) H) : cInt [.int i] H Q := .inl ⟨i, rfl, q⟩
theorem v_intB {b : Bool} (q : Q (.int (if b then 1 else 0)) H) : cInt [.bl b] H Q := .inr ⟨b, rfl, q⟩
theorem v_boolB {b : Bool} (q : Q (.bl b) H) : cBool [.bl b] H Q := .inr ⟨b, rfl, q⟩
theorem v_lenL {a : Addr} {xs : List V} (ha : H a = some (.lst xs)) (q : Q (.int (xs.length : Int)) H) : cLen K [.ref a] H Q := ⟨.ref a, xs.length, rfl, .inl ⟨xs, SqL.of ha, rfl⟩, q⟩
theorem v_lenT {a : Addr} {xs : List V} (ha : H a = some (.tup xs)) (q : Q (.int (xs.length : Int)) H) : cLen K [.ref a] H Q := ⟨.ref a, xs.length, rfl, .inr ⟨xs, SqT.of ha, rfl⟩, q⟩
/-- xs[n] = v -/
theorem st_sub {T : TSet} {k : L2.St → Hp → Prop} (h : ta σ H fun o H1 => tb σ H1 fun i H2 => T o i v H2 fun H3 => k σ H3) : gSub ta tb T v σ H k := h
theorem v_set {a : Addr} {xs : List V} {z : Int} {k : Hp → Prop} (ha : H a = some (.lst xs)) (hz : 0 ≤ z) (h : z.toNat < xs.length) (q : ∀ H2, But a H H2 → H2 a = some (.lst (xs.set z.toNat v)) → k H2) : uSet (.ref a) (.int z) v H k :=
  ⟨a, xs, z, z.toNat, rfl, rfl, ha, by unfold ixN; rw [if_pos hz, if_pos (by omega)], q _ But.upd upd_same⟩
/-- methods of lists -/
theorem st_bm {T : String} {r : V → List V → Hp → VK → Prop} (h : ta σ H fun x H1 => tyV K T x H1 ∧ as σ H1 fun xs H2 => r x xs H2 Q) : tBM K T r ta as σ H Q := h
theorem st_bm0 {T : String} {r : V → List V → Hp → VK → Prop} (h : ta σ H fun x H1 => tyV K T x H1 ∧ r x [] H1 Q) : tBM0 K T r ta σ H Q := h
theorem ty_list {a : Addr} {xs : List V} (ha : H a = some (.lst xs)) : tyV K "list" (.ref a) H := .inl ⟨rfl, xs, SqL.of ha⟩
theorem v_append {a : Addr} {xs : List V} (ha : H a = some (.lst xs)) (hz : xs.length < 1000000) (q : ∀ H2, But a H H2 → H2 a = some (.lst (xs ++ [v])) → Q .non H2) : rAppend (.ref a) [v] H Q :=
  ⟨a, xs, v, rfl, rfl, ha, Nat.lt_of_lt_of_le hz (by decide), q _ But.upd upd_same⟩
theorem v_popAt {a : Addr} {xs : List V} {z : Int} (ha : H a = some (.lst xs)) (hz : 0 ≤ z) (hn : z < 1000000) (h : xs[z.toNat]? = some v) (q : ∀ H2, But a H H2 → H2 a = some (.lst (xs.eraseIdx z.toNat)) → Q v H2) : rPopAt (.ref a) [.int z] H Q :=
  ⟨a, xs, z, z.toNat, v, rfl, rfl, ha, by omega, by omega, by
    have w := (List.getElem?_eq_some_iff.mp h).1
    show (if (decide ((0 : Int) ≤ (if z < 0 then z + xs.length else z)) && decide ((if z < 0 then z + xs.length else z) < xs.length)) = true then some (if z < 0 then z + xs.length else z).toNat else none) = some z.toNat
    rw [if_neg (show ¬ z < 0 by omega), if_pos (by simp; omega)], h, q _ But.upd upd_same⟩
/-- what a change leaves -/
theorem chg {a : Addr} {o : HO} {k : Hp → Prop} (h : ∀ H2, But a H H2 → H2 a = some o → k H2) : k (upd H a o) := h _ But.upd upd_same
end
end GG

/-! GT: loops, comprehensions, makings, tries, isinstance: the readings step by step. -/
namespace GG
open PySem L2 PyProof.Rows

/-! ### more rules for any operands -/
def cMin2 : List V → Hp → VK → Prop := fun xs H Q => ∃ i j, xs = [.int i, .int j] ∧ Q (.int (if j < i then j else i)) H
def cMax2 : List V → Hp → VK → Prop := fun xs H Q => ∃ i j, xs = [.int i, .int j] ∧ Q (.int (if j > i then j else i)) H
def cAbs : List V → Hp → VK → Prop := fun xs H Q => ∃ i, xs = [.int i] ∧ Q (.int (if i < 0 then -i else i)) H
section
variable {X : Cx}
theorem c_min2 (hc : X.calm = true) : CallR X (.builtin "min") cMin2 := call_min2 hc
theorem c_max2 (hc : X.calm = true) : CallR X (.builtin "max") cMax2 := call_max2 hc
theorem c_min1 (K : PySem.W.Frag) (hc : X.calm = true) (hK : X.K = K := by rfl) : CallR X (.builtin "min") (rMin K) := by subst hK; exact cr_min hc
theorem c_max1 (K : PySem.W.Frag) (hc : X.calm = true) (hK : X.K = K := by rfl) : CallR X (.builtin "max") (rMax K) := by subst hK; exact cr_max hc
theorem c_abs : CallR X (.builtin "abs") cAbs := call_abs
end

theorem cd_small {i j : Int} (h0 : 0 < j) (h1 : j ≤ 1000000) : CD i j := ⟨by omega, Nat.lt_trans (PySem.Flt.log2_lt_of (k := 20) (by decide) (by omega)) (by decide)⟩
theorem kit_self {K : PySem.W.Frag} {C : Addr} : PySem.W.kitOne K (.ref C) (.ref C) = some true := by
  unfold PySem.W.kitOne
  rw [if_pos (beq_self_eq_true _)]
theorem not_first {K : PySem.W.Frag} {C : Addr} {t : Value} (h : PySem.W.subIn K t (.ref C) = some false) : PySem.W.notFirst K C t = true := by
  unfold PySem.W.notFirst
  rw [h]
  simp
theorem right_mk {K : PySem.W.Frag} {C : Addr} {T nm : String} {d r : Str} {fo ro rc : Option Value} (hd : PySem.dunder nm = d) (hr : dunderR nm = r) (r1 : PySem.W.findIn K (.type T) d = some fo) (r2 : PySem.W.findIn K (.type T) r = some ro) (r3 : PySem.W.findIn K (.ref C) r = some rc)
    (r3' : rc = none ∨ ∃ g : Addr, rc = some (.ref g)) (r4 : PySem.W.subIn K (.type T) (.ref C) = some false) : RightT K C T nm := by
  subst hd
  subst hr
  exact ⟨⟨_, r1⟩, ⟨_, r2⟩, ⟨_, r3, r3'⟩, r4⟩
/-- what the top has written of an own class x, at C -/
structure OwnC (K : PySem.W.Frag) (mg : Str → Option Value) (x : Str) (C : Addr) : Prop where
  g : mg x = some (.ref C)
  cl : Cls K C
  sf : PySem.W.selfFirst K C = true
  ha : PySem.W.findIn K (.ref C) "__class__" = some (some (.builtin "object.__class__"))
  hn : PySem.W.specialIn K (.builtin "object.__class__") "__get__" = some (some (.builtin "getset_descriptor.__get__"))
  ht : PySem.W.takesIn K (.builtin "object.__class__") = some true
  hm : PySem.W.mroIn K C (.type "object") = some true
  ki : PySem.W.kitOne K (.ref C) (.ref C) = some true
theorem OwnC.ty {K : PySem.W.Frag} {mg : Str → Option Value} {x : Str} {C a dx : Addr} {H : Hp} {fs : List (Str × V)} (O : OwnC K mg x C) (e : H a = some (.ins C dx fs)) : TyX K H (.ref a) (.ref C) := .base (.ins e O.cl O.ha O.hn O.ht O.hm)

/-- a continuation at slots with one set -/
def Kont (nx : L2.St → Hp → Prop) (σ : L2.St) (n : Nat) (v : Option V) (H : Hp) : Prop := nx (σ.set n v) H
/-- a value's truth, as a test -/
def tTru (K : PySem.W.Frag) (te : TE) : TT := fun σ H Q => te σ H fun x H' => rTru K x H' Q
theorem pt_tru (K : PySem.W.Frag) {X : Cx} {a : Expr} {ta : TE} (ha : PE X a ta) (he : ∀ whole, isTrue a X.env whole = (do let v ← whole; standAt a.pos; holding [v] (truthy v))) (hK : X.K = K := by rfl) : PT X a (tTru K ta) := by subst hK; exact pt_truth ha he
section
variable {K : PySem.W.Frag} {mg : Str → Option Value} {nx bk ct : L2.St → Hp → Prop} {rt : VK} {σ : L2.St} {H : Hp} {t u : TS} {te ta tb tc : TE} {tt tu : TT} {as : TA} {Q : VK} {QB : Bool → Hp → Prop} {QA : List V → Hp → Prop} {v x y : V} {E : L2.St → XK} {sp : Sp} {i j : Int}
theorem v_min2 (q : Q (.int (min i j)) H) : cMin2 [.int i, .int j] H Q := ⟨i, j, rfl, by rw [show (if j < i then j else i) = min i j by split <;> omega]; exact q⟩
theorem v_max2 (q : Q (.int (max i j)) H) : cMax2 [.int i, .int j] H Q := ⟨i, j, rfl, by rw [show (if j > i then j else i) = max i j by split <;> omega]; exact q⟩
theorem v_abs (q : Q (.int (if i < 0 then -i else i)) H) : cAbs [.int i] H Q := ⟨i, rfl, q⟩
theorem v_min1 {a : Addr} {ns : List Int} (ha : H a = some (.lst (ns.map V.int))) (h : 0 < ns.length) (q : ∀ m, m ∈ ns → (∀ y, y ∈ ns → m ≤ y) → Q (.int m) H) : rMin K [.ref a] H Q := ⟨a, ns, rfl, SqL.of ha, h, q⟩
theorem v_max1 {a : Addr} {ns : List Int} (ha : H a = some (.lst (ns.map V.int))) (h : 0 < ns.length) (q : ∀ m, m ∈ ns → (∀ y, y ∈ ns → y ≤ m) → Q (.int m) H) : rMax K [.ref a] H Q := ⟨a, ns, rfl, SqL.of ha, h, q⟩
/-! ### isinstance -/
theorem v_isII (q : Q (.bl true) H) : rIsi K [.int i, .ty "int"] H Q := ⟨.int i, .ty "int", .type "int", .type "int", true, rfl, .ty _, .base (.int i), kit_ty (by decide +kernel), q⟩
theorem v_isIB (q : Q (.bl false) H) : rIsi K [.int i, .ty "bool"] H Q := ⟨.int i, .ty "bool", .type "int", .type "bool", false, rfl, .ty _, .base (.int i), kit_ty (by decide +kernel), q⟩
theorem v_isBB {b : Bool} (q : Q (.bl true) H) : rIsi K [.bl b, .ty "bool"] H Q := ⟨.bl b, .ty "bool", .type "bool", .type "bool", true, rfl, .ty _, .base (.bl b), kit_ty (by decide +kernel), q⟩
theorem v_isO {n : Str} {C a dx : Addr} {fs : List (Str × V)} (e : H a = some (.ins C dx fs)) (O : OwnC K mg n C) (q : Q (.bl true) H) : rIsi K [.ref a, .ref C] H Q := ⟨.ref a, .ref C, .ref C, .ref C, true, rfl, .own C, O.ty e, O.ki, q⟩
theorem v_isX {n : Str} {a C fI dd : Addr} {v c : V} {cv : Value} {b : Bool} (T : PySem.GErr.ErrTxt K mg n C fI) (hd : H dd = some (.xd (subj v))) (k : PySem.W.kitOne K (.ref C) cv = some b) (hc : ClsV c cv) (q : Q (.bl b) H) : rIsX K mg a (.ref C) (some dd) [.ref a, c] H Q :=
  ⟨n, C, fI, dd, v, c, cv, b, rfl, rfl, T, rfl, hd, hc, k, q⟩
/-! ### e.subject -/
def rSubj (K : PySem.W.Frag) (mg : Str → Option Value) (a : Addr) (cls : Value) (d : Option Addr) (x : V) (H : Hp) (Q : VK) : Prop := x = .ref a ∧ ∃ (n : Str) (C fI dd : Addr) (v : V), cls = .ref C ∧ PySem.GErr.ErrTxt K mg n C fI ∧ d = some dd ∧ H dd = some (.xd (subj v)) ∧ Q v H
theorem st_subj {a : Addr} {cls : Value} {d : Option Addr} (h : te σ H fun x H1 => rSubj K mg a cls d x H1 Q) : tSubj K mg a cls d te σ H Q := h
theorem v_subj {n : Str} {a C fI dd : Addr} (T : PySem.GErr.ErrTxt K mg n C fI) (hd : H dd = some (.xd (subj v))) (q : Q v H) : rSubj K mg a (.ref C) (some dd) (.ref a) H Q := ⟨rfl, n, C, fI, dd, v, rfl, T, rfl, hd, q⟩
/-! ### raise -/
def rRaise (C : Addr) (W : WX) (σ : L2.St) (vs : List V) (H : Hp) : Prop := ∃ v, vs = [v] ∧ ∀ d, H d = none → W (.ref C) (some d) σ (upd H d (.xd (subj v)))
theorem run_raise {C : Addr} {W : WX} (h : as σ H fun vs H1 => rRaise C W σ vs H1) : Run (tRaiseErr C W as) nx rt bk ct σ H := h
theorem v_raise {C : Addr} {W : WX} (h : ∀ d H2, H d = none → Ext H H2 → H2 d = some (.xd (subj v)) → W (.ref C) (some d) σ H2) : rRaise C W σ [v] H := ⟨v, rfl, fun d hd => h d _ hd (Ext.new hd) upd_same⟩
/-! ### try .. except C as n -/
theorem run_tryAs {K : PySem.W.Frag} {c : Value} {i : Nat} {ts : Addr → Obj → Value → Option Addr → List (Addr × Obj) → TS} {Wout : WX} {tb : WX → List (Addr × Obj) → (Value → Shared → Prop) → TS} (h : ∀ pn xe, Run (tb (wAs K c i (tAll ts) Wout ⟨nx, rt, bk, ct⟩) pn xe) nx rt bk ct σ H) :
    Run (tTryAs K c i ts Wout tb) nx rt bk ct σ H := h
theorem run_tryOnly {K : PySem.W.Frag} {c : Value} {ts : Addr → Obj → Value → Option Addr → List (Addr × Obj) → TS} {Wout : WX} {tb : WX → List (Addr × Obj) → (Value → Shared → Prop) → TS} (h : ∀ pn xe, Run (tb (wOnly K c (tAll ts) Wout ⟨nx, rt, bk, ct⟩) pn xe) nx rt bk ct σ H) :
    Run (tTryOnly K c ts Wout tb) nx rt bk ct σ H := h
theorem w_only {K : PySem.W.Frag} {c cls : Value} {d : Option Addr} {ts : Addr → Obj → Value → Option Addr → List (Addr × Obj) → TS} {Wout : WX} (hm : PySem.W.exmOne K cls c = some true)
    (q : ∀ a oe pn, H a = none → Run (ts a oe cls d pn) nx rt bk ct σ H) : wOnly K c (tAll ts) Wout ⟨nx, rt, bk, ct⟩ cls d σ H :=
  ⟨true, hm, fun _ a ha oe pn => q a oe pn ha, fun z => nomatch z⟩
theorem w_as {K : PySem.W.Frag} {c cls : Value} {i : Nat} {d : Option Addr} {ts : Addr → Obj → Value → Option Addr → List (Addr × Obj) → TS} {Wout : WX} (hm : PySem.W.exmOne K cls c = some true)
    (q : ∀ a oe pn, H a = none → Kont (fun σ1 H1 => Run (ts a oe cls d pn) (fun σ' H' => Kont nx σ' i none H') rt (fun σ' H' => Kont bk σ' i none H') (fun σ' H' => Kont ct σ' i none H') σ1 H1) σ i (some (.ref a)) H) : wAs K c i (tAll ts) Wout ⟨nx, rt, bk, ct⟩ cls d σ H :=
  ⟨true, hm, fun _ a ha oe pn => q a oe pn ha, fun z => nomatch z⟩
/-! ### C(..) -/
def rMk (C : Addr) (sp : Sp) (E : XK) (vs : List V) (H : Hp) (Q : VK) : Prop := ∀ x dx, H x = none → H dx = none → dx ≠ x → sp (.ref x :: vs) (upd (upd H dx (.own x)) x (.ins C dx [])) (fun v H2 => v = .non ∧ Q (.ref x) H2) E
theorem st_mk {C : Addr} {dvs : List V} (h : as σ H fun vs H1 => rMk C sp (E σ) (vs ++ dvs) H1 Q) : tMkS C sp dvs E as σ H Q := h
/-- the new instance: what was stays, the instance is x -/
theorem v_mk {C : Addr} {vs : List V} {E : XK} (h : ∀ x dx H1, H x = none → Ext H H1 → H1 x = some (.ins C dx []) → sp (.ref x :: vs) H1 (fun v H2 => v = .non ∧ Q (.ref x) H2) E) : rMk C sp E vs H Q := fun x dx hx hd hn =>
  h x dx _ hx (fun a o e => by rw [upd_ne (ne_of_none e hx), upd_ne (ne_of_none e hd)]; exact e) upd_same
/-! ### list(range(..)) -/
def rLstRg (a b : Int) (H : Hp) (Q : VK) : Prop := RgOk a b ∧ ∀ q, H q = none → Q (.ref q) (upd H q (.lst (rgV a b)))
def rRg2 (x y : V) (H : Hp) (Q : Int → Int → Hp → Prop) : Prop := ∃ i j, x = .int i ∧ y = .int j ∧ Q i j H
theorem st_lstRg2 (h : ta σ H fun x H1 => tb σ H1 fun y H2 => rRg2 x y H2 fun a b H3 => rLstRg a b H3 Q) : tLstRg (tRg2 ta tb) σ H Q := h
theorem v_rg2 {Q : Int → Int → Hp → Prop} (q : Q i j H) : rRg2 (.int i) (.int j) H Q := ⟨i, j, rfl, rfl, q⟩
theorem v_lstRg (hr : RgOk i j) (h : ∀ p H2, H p = none → Ext H H2 → H2 p = some (.lst (rgV i j)) → Q (.ref p) H2) : rLstRg i j H Q := ⟨hr, fun p hp => h p _ hp (Ext.new hp) upd_same⟩
/-! ### own operators -/
theorem v_own {C a b dx dy : Addr} {fs gs : List (Str × V)} (ha : H a = some (.ins C dx fs)) (hb : H b = some (.ins C dy gs)) (q : sp [.ref a, .ref b] H Q (E σ)) : rOwn C sp E σ (.ref a) (.ref b) H Q := ⟨a, dx, fs, b, dy, gs, rfl, ha, rfl, hb, q⟩
theorem v_ownI {C a dx : Addr} {fs : List (Str × V)} (ha : H a = some (.ins C dx fs)) (q : sp [.ref a, .int i] H Q (E σ)) : rOwnI C sp E σ (.ref a) (.int i) H Q := ⟨a, dx, fs, i, rfl, ha, rfl, q⟩
theorem v_ownIn {C a dx : Addr} {fs : List (Str × V)} (ha : H a = some (.ins C dx fs)) (q : sp [.ref a, y] H (fun v H' => rTest v H' fun c H' => Q (.bl c) H') (E σ)) : rOwnIn C sp E σ y (.ref a) H Q := ⟨a, dx, fs, rfl, ha, q⟩
theorem v_own1 {C a dx : Addr} {fs : List (Str × V)} (ha : H a = some (.ins C dx fs)) (q : sp [.ref a] H Q (E σ)) : rOwn1 C sp E σ (.ref a) H Q := ⟨a, dx, fs, rfl, ha, q⟩
theorem v_ownC {C a dx : Addr} {fs : List (Str × V)} (ha : H a = some (.ins C dx fs)) (q : sp [.ref a] H Q (E σ)) : rOwnC C sp E σ [.ref a] H Q := ⟨a, dx, fs, rfl, ha, q⟩
theorem v_ownB {C a dx : Addr} {fs : List (Str × V)} (ha : H a = some (.ins C dx fs)) (q : sp [.ref a] H (fun v H' => rTest v H' fun c H' => Q (.bl c) H') (E σ)) : rOwnB C sp E σ [.ref a] H Q := ⟨a, dx, fs, rfl, ha, q⟩
theorem v_ownLen {C a dx : Addr} {fs : List (Str × V)} (ha : H a = some (.ins C dx fs)) (q : sp [.ref a] H (fun v H' => ∃ n : Int, v = .int n ∧ 0 ≤ n ∧ n < 2 ^ 63 ∧ Q (.int n) H') (E σ)) : rOwnLen C sp E σ [.ref a] H Q := ⟨a, dx, fs, rfl, ha, q⟩
/-! ### targets -/
theorem g_name {n : Nat} {k : L2.St → Hp → Prop} (h : k (σ.set n (some v)) H) : gName n v σ H k := h
theorem g_tup {a : Addr} {xs : List V} {n : Nat} {tg : TGs} {k : L2.St → Hp → Prop} (ha : H a = some (.tup xs)) (hl : xs.length = n) (h : tg xs σ H k) : gTup K n tg (.ref a) σ H k := ⟨a, xs, rfl, SqT.of ha, hl, h⟩
theorem g_cons {xs : List V} {g : TG} {tg : TGs} {k : L2.St → Hp → Prop} (h : g v σ H fun σ' H' => tg xs σ' H' k) : gCons g tg (v :: xs) σ H k := ⟨v, xs, rfl, h⟩
theorem g_nil {k : L2.St → Hp → Prop} (h : k σ H) : gNil [] σ H k := ⟨rfl, h⟩
/-! ### for -/
def rFor (J : It) (g : TG) (t : TS) (nx : L2.St → Hp → Prop) (rt : VK) (bk ct : L2.St → Hp → Prop) (σ : L2.St) (H : Hp) : Prop := ∃ W : Nat → Nat → L2.St → Hp → Prop, (∃ m, W 0 m σ H) ∧ ∀ i m σ H, W i m σ H →
  (J.stop i H ∧ nx σ H) ∨ (J.go i H ∧ ∃ N : L2.St → Hp → Prop, (∀ σ' H', N σ' H' → ∃ m', m' < m ∧ W (i + 1) m' σ' H') ∧ ∀ x H', J.yld i H x H' → g x σ H' fun σ2 H2 => t ⟨N, rt, nx, N⟩ σ2 H2)
theorem run_for {wi : TI} {g : TG} (h : wi σ H fun J H1 => rFor J g t nx rt bk ct σ H1) : Run (tFor wi g t) nx rt bk ct σ H := h
def rRng1 (vs : List V) (H : Hp) (R : It → Hp → Prop) : Prop := ∃ j : Int, vs = [.int j] ∧ -(2 ^ 62) ≤ j ∧ j < 2 ^ 62 ∧ R (Itr 0 j.toNat) H
def rRng2 (vs : List V) (H : Hp) (R : It → Hp → Prop) : Prop := ∃ i j : Int, vs = [.int i, .int j] ∧ (-(2 ^ 62) ≤ i ∧ i < 2 ^ 62 ∧ -(2 ^ 62) ≤ j ∧ j < 2 ^ 62) ∧ R (Itr i (j - i).toNat) H
def rSeqL (K : PySem.W.Frag) (x : V) (H : Hp) (R : It → Hp → Prop) : Prop := ∃ a, x = .ref a ∧ (∃ xs, SqL K H a xs) ∧ R (Itl K a) H
def rSeqT (K : PySem.W.Frag) (x : V) (H : Hp) (R : It → Hp → Prop) : Prop := ∃ a, x = .ref a ∧ (∃ xs, SqT K H a xs) ∧ R (Itt K a) H
theorem i_rng1 {R : It → Hp → Prop} (h : as σ H fun vs H1 => rRng1 vs H1 R) : iRng1 as σ H R := h
theorem i_rng2 {R : It → Hp → Prop} (h : as σ H fun vs H1 => rRng2 vs H1 R) : iRng2 as σ H R := h
theorem i_list {R : It → Hp → Prop} (h : te σ H fun x H1 => rSeqL K x H1 R) : iList K te σ H R := h
theorem i_tup {R : It → Hp → Prop} (h : te σ H fun x H1 => rSeqT K x H1 R) : iTup K te σ H R := h
theorem r_rng1 {R : It → Hp → Prop} (h0 : -1000000 ≤ j) (h1 : j ≤ 1000000) (q : R (Itr 0 j.toNat) H) : rRng1 [.int j] H R := ⟨j, rfl, by omega, by omega, q⟩
theorem r_rng2 {R : It → Hp → Prop} (h0 : -1000000 ≤ i) (h1 : i ≤ 1000000) (h2 : -1000000 ≤ j) (h3 : j ≤ 1000000) (q : R (Itr i (j - i).toNat) H) : rRng2 [.int i, .int j] H R := ⟨i, j, rfl, ⟨by omega, by omega, by omega, by omega⟩, q⟩
theorem r_seqL {R : It → Hp → Prop} {a : Addr} {xs : List V} (ha : H a = some (.lst xs)) (q : R (Itl K a) H) : rSeqL K (.ref a) H R := ⟨a, rfl, ⟨xs, SqL.of ha⟩, q⟩
theorem r_seqLK {R : It → Hp → Prop} {a : Addr} {xs : List V} (ha : SqL K H a xs) (q : R (Itl K a) H) : rSeqL K (.ref a) H R := ⟨a, rfl, ⟨xs, ha⟩, q⟩
theorem r_seqT {R : It → Hp → Prop} {a : Addr} {xs : List V} (ha : H a = some (.tup xs)) (q : R (Itt K a) H) : rSeqT K (.ref a) H R := ⟨a, rfl, ⟨xs, SqT.of ha⟩, q⟩
/-- a range, by a word of the turn -/
theorem f_range {lo : Int} {n : Nat} {g : TG} (Pv : Nat → L2.St → Hp → Prop) (h0 : Pv 0 σ H) (hs : ∀ i σ H, i < n → Pv i σ H → g (.int (lo + i)) σ H fun σ2 H2 => Run t (Pv (i + 1)) rt nx (Pv (i + 1)) σ2 H2) (hd : ∀ σ H, Pv n σ H → nx σ H) :
    rFor (Itr lo n) g t nx rt bk ct σ H := for_range (D := ⟨nx, rt, bk, ct⟩) Pv h0 hs hd
/-- range(n) from 0 -/
theorem f_range0 {n : Nat} {g : TG} (Pv : Nat → L2.St → Hp → Prop) (h0 : Pv 0 σ H) (hs : ∀ (i : Nat) σ H, i < n → Pv i σ H → g (.int (i : Int)) σ H fun σ2 H2 => Run t (Pv (i + 1)) rt nx (Pv (i + 1)) σ2 H2) (hd : ∀ σ H, Pv n σ H → nx σ H) :
    rFor (Itr 0 n) g t nx rt bk ct σ H := f_range Pv h0 (fun i σ H hi p => by rw [show (0 : Int) + (i : Int) = (i : Int) by omega]; exact hs i σ H hi p) hd
theorem v_ixLn {a : Addr} {xs : List V} {n : Nat} (ha : H a = some (.lst xs)) (h : xs[n]? = some v) (q : Q v H) : uIx K (.ref a) (.int (n : Int)) H Q := v_ixL ha (by omega) h q
theorem v_setN {a : Addr} {xs : List V} {n : Nat} {k : Hp → Prop} (ha : H a = some (.lst xs)) (h : n < xs.length) (q : ∀ H2, But a H H2 → H2 a = some (.lst (xs.set n v)) → k H2) : uSet (.ref a) (.int (n : Int)) v H k := v_set ha (by omega) h q
theorem f_list {a : Addr} {xs : List V} {g : TG} (Pv : Nat → L2.St → Hp → Prop) (h0 : Pv 0 σ H) (hl : ∀ i σ H, i ≤ xs.length → Pv i σ H → SqL K H a xs) (hs : ∀ i x σ H, xs[i]? = some x → Pv i σ H → g x σ H fun σ2 H2 => Run t (Pv (i + 1)) rt nx (Pv (i + 1)) σ2 H2)
    (hd : ∀ σ H, Pv xs.length σ H → nx σ H) : rFor (Itl K a) g t nx rt bk ct σ H := for_list (D := ⟨nx, rt, bk, ct⟩) Pv h0 hl hs hd
theorem f_tup {a : Addr} {xs : List V} {g : TG} (Pv : Nat → L2.St → Hp → Prop) (h0 : Pv 0 σ H) (hl : ∀ i σ H, i ≤ xs.length → Pv i σ H → SqT K H a xs) (hs : ∀ i x σ H, xs[i]? = some x → Pv i σ H → g x σ H fun σ2 H2 => Run t (Pv (i + 1)) rt nx (Pv (i + 1)) σ2 H2)
    (hd : ∀ σ H, Pv xs.length σ H → nx σ H) : rFor (Itt K a) g t nx rt bk ct σ H := for_tup (D := ⟨nx, rt, bk, ct⟩) Pv h0 hl hs hd
/-! ### [e for x in ..], without an if -/
def rLc (J : It) (g : TG) (tt : TT) (te : TE) (vs : List Nat) (σ : L2.St) (H1 : Hp) (Q : VK) : Prop := ∀ D, H1 D = none → ∃ W : Nat → Nat → Hp → Prop, (∃ m, W 0 m (upd H1 D (.lst []))) ∧ ∀ i m H, W i m H →
  (J.stop i H ∧ Q (.ref D) H) ∨ (J.go i H ∧ ∃ Nx : Hp → Prop, (∀ H', Nx H' → ∃ m', m' < m ∧ W (i + 1) m' H') ∧ ∀ x H', J.yld i H x H' → g x (wipe σ vs) H' fun σ2 H2 => wipe σ2 vs = wipe σ vs ∧ tt σ2 H2 fun b H3 =>
    if b = true then te σ2 H3 fun y H4 => ∃ acc, H4 D = some (.lst acc) ∧ acc.length < sizeLine ∧ Nx (upd H4 D (.lst (acc ++ [y]))) else Nx H3)
theorem st_lc {wi : TI} {g : TG} {vs : List Nat} (h : wi σ H fun J H1 => rLc J g tt te vs σ H1 Q) : tLc wi g tt te vs σ H Q := h
/-- one item more at D -/
def rAcc (D : Addr) (k : Hp → Prop) (y : V) (H : Hp) : Prop := ∃ acc, H D = some (.lst acc) ∧ acc.length < sizeLine ∧ k (upd H D (.lst (acc ++ [y])))
/-- D holds acc, n items, of which Pv -/
def LcAt (D : Addr) (n : Nat) (Pv : List V → Hp → Prop) (H : Hp) : Prop := ∃ acc, H D = some (.lst acc) ∧ acc.length = n ∧ Pv acc H
theorem v_acc {D : Addr} {n : Nat} {acc : List V} {Pv : List V → Hp → Prop} (ha : H D = some (.lst acc)) (hl : acc.length = n) (hz : n < 1000000) (q : ∀ H2, But D H H2 → H2 D = some (.lst (acc ++ [y])) → Pv (acc ++ [y]) H2) : rAcc D (LcAt D (n + 1) Pv) y H :=
  ⟨acc, ha, by rw [hl]; exact Nat.lt_of_lt_of_le hz (by decide), acc ++ [y], upd_same, by rw [List.length_append, hl]; rfl, q _ But.upd upd_same⟩
theorem lc_rng {lo : Int} {n : Nat} {g : TG} {vs : List Nat} (Pv : Nat → Addr → List V → Hp → Prop) (h0 : ∀ D H1, H D = none → Ext H H1 → H1 D = some (.lst []) → Pv 0 D [] H1)
    (hs : ∀ i D acc H1, H D = none → i < n → H1 D = some (.lst acc) → acc.length = i → Pv i D acc H1 → g (.int (lo + i)) (wipe σ vs) H1 fun σ2 H2 => wipe σ2 vs = wipe σ vs ∧ te σ2 H2 fun y H4 => rAcc D (LcAt D (i + 1) (Pv (i + 1) D)) y H4)
    (hd : ∀ D acc H1, H D = none → H1 D = some (.lst acc) → acc.length = n → Pv n D acc H1 → Q (.ref D) H1) : rLc (Itr lo n) g tYes te vs σ H Q := by
  intro D hD
  refine lc_range (Pv := fun i H1 => LcAt D i (Pv i D) H1) ⟨[], upd_same, rfl, h0 D _ hD (Ext.new hD) upd_same⟩ ?_ ?_
  · rintro i H1 hi ⟨acc, ha, hl, hp⟩
    exact hs i D acc H1 hD hi ha hl hp
  · rintro H1 ⟨acc, ha, hl, hp⟩
    exact hd D acc H1 hD ha hl hp
theorem lc_lst {a : Addr} {xs : List V} {g : TG} {vs : List Nat} (Pv : Nat → Addr → List V → Hp → Prop) (h0 : ∀ D H1, H D = none → Ext H H1 → H1 D = some (.lst []) → Pv 0 D [] H1)
    (hl : ∀ i D acc H1, H D = none → i ≤ xs.length → Pv i D acc H1 → SqL K H1 a xs)
    (hs : ∀ i x D acc H1, H D = none → xs[i]? = some x → H1 D = some (.lst acc) → acc.length = i → Pv i D acc H1 → g x (wipe σ vs) H1 fun σ2 H2 => wipe σ2 vs = wipe σ vs ∧ te σ2 H2 fun y H4 => rAcc D (LcAt D (i + 1) (Pv (i + 1) D)) y H4)
    (hd : ∀ D acc H1, H D = none → H1 D = some (.lst acc) → acc.length = xs.length → Pv xs.length D acc H1 → Q (.ref D) H1) : rLc (Itl K a) g tYes te vs σ H Q := by
  intro D hD
  refine lc_list (xs := xs) (Pv := fun i H1 => LcAt D i (Pv i D) H1) ⟨[], upd_same, rfl, h0 D _ hD (Ext.new hD) upd_same⟩ ?_ ?_ ?_
  · rintro i H1 hi ⟨acc, ha, hl', hp⟩
    exact hl i D acc H1 hD hi hp
  · rintro i x H1 hi ⟨acc, ha, hl', hp⟩
    exact hs i x D acc H1 hD hi ha hl' hp
  · rintro H1 ⟨acc, ha, hl', hp⟩
    exact hd D acc H1 hD ha hl' hp
end
end GG

/-! GU: the steps that ask nothing, found by instances. -/
namespace GG
open PySem L2 PyProof.Rows
class St1 (P : Prop) (P' : outParam Prop) : Prop where
  h : P' → P
class StN (P : Prop) (P' : outParam Prop) : Prop where
  h : P' → P
class StP (P : Prop) (P' : outParam Prop) : Prop where
  h : P' → P
instance (priority := low) stn_rfl {P : Prop} : StN P P := ⟨id⟩
instance stn_step {P P1 P' : Prop} [a : St1 P P1] [b : StN P1 P'] : StN P P' := ⟨fun h => a.h (b.h h)⟩
instance stp_step {P P1 P' : Prop} [a : St1 P P1] [b : StN P1 P'] : StP P P' := ⟨fun h => a.h (b.h h)⟩
/-- the value in a slot -/
class Slot1 (σ : L2.St) (i : Nat) (v : outParam V) : Prop where
  h : σ[i]? = some (some v)
instance slot_here {v : V} {σ : L2.St} : Slot1 (some v :: σ) 0 v := ⟨rfl⟩
instance slot_next {x : Option V} {σ : L2.St} {i : Nat} {v : V} [a : Slot1 σ i v] : Slot1 (x :: σ) (i + 1) v := ⟨a.h⟩
/-- a slot set -/
class SetS (σ : L2.St) (i : Nat) (v : Option V) (σ' : outParam L2.St) : Prop where
  h : σ.set i v = σ'
instance set_here {x v : Option V} {σ : L2.St} : SetS (x :: σ) 0 v (v :: σ) := ⟨rfl⟩
instance set_next {x v : Option V} {σ σ' : L2.St} {i : Nat} [a : SetS σ i v σ'] : SetS (x :: σ) (i + 1) v (x :: σ') := ⟨by rw [List.set_cons_succ, a.h]⟩
section
variable {K : PySem.W.Frag} {mg : Str → Option Value} {nx bk ct : L2.St → Hp → Prop} {rt : VK} {σ σ' : L2.St} {H : Hp} {t u : TS} {te ta tb tc : TE} {tt tu : TT} {as tr : TA} {Q : VK} {QB : Bool → Hp → Prop} {QA : List V → Hp → Prop} {v x y : V} {E : L2.St → XK} {sp : Sp} {i j : Int} {n : Nat} {b : Bool} {A B : Prop}
instance i_seq : St1 (Run (tSeq t u) nx rt bk ct σ H) (Run t (fun σ' H' => Run u nx rt bk ct σ' H') rt bk ct σ H) := ⟨run_seq⟩
instance i_next : St1 (Run tNext nx rt bk ct σ H) (nx σ H) := ⟨run_next⟩
instance i_asg : St1 (Run (tAsg te (gName n)) nx rt bk ct σ H) (te σ H fun x H1 => Kont nx σ n (some x) H1) := ⟨fun h => h⟩
instance i_kont {v : Option V} [a : SetS σ n v σ'] : St1 (Kont nx σ n v H) (nx σ' H) := ⟨fun h => by unfold Kont; rw [a.h]; exact h⟩
instance i_asgS {T : TSet} : St1 (Run (tAsg te (gSub ta tb T)) nx rt bk ct σ H) (te σ H fun x H1 => ta σ H1 fun o H2 => tb σ H2 fun i H3 => T o i x H3 fun H4 => nx σ H4) := ⟨fun h => h⟩
instance i_asgT {n : Nat} {tg : TGs} : St1 (Run (tAsg te (gTup K n tg)) nx rt bk ct σ H) (te σ H fun x H1 => gTup K n tg x σ H1 nx) := ⟨fun h => h⟩
instance i_drop : St1 (Run (tDrop te) nx rt bk ct σ H) (te σ H fun _ H1 => nx σ H1) := ⟨fun h => h⟩
instance i_ret : St1 (Run (tRet te) nx rt bk ct σ H) (te σ H rt) := ⟨fun h => h⟩
instance i_retN : St1 (Run tRetN nx rt bk ct σ H) (rt .non H) := ⟨fun h => h⟩
instance i_break : St1 (Run tBreak nx rt bk ct σ H) (bk σ H) := ⟨fun h => h⟩
instance i_cont : St1 (Run tCont nx rt bk ct σ H) (ct σ H) := ⟨fun h => h⟩
instance i_ifS : St1 (Run (tIfS tt t u) nx rt bk ct σ H) (tt σ H fun b H1 => Br b (Run t nx rt bk ct σ H1) (Run u nx rt bk ct σ H1)) := ⟨fun h => h⟩
instance i_par {n m : Nat} : St1 (Run (tPar n m as) nx rt bk ct σ H) (as σ H fun vs H1 => ∃ v w, vs = [v, w] ∧ nx ((σ.set n (some v)).set m (some w)) H1) := ⟨fun h => h⟩
instance i_fldS {f : Str} : St1 (Run (sFld K ta tb f) nx rt bk ct σ H) (tb σ H fun y H1 => ta σ H1 fun x H2 => rPutF K f x y H2 (nx σ)) := ⟨fun h => h⟩
instance i_raise {C : Addr} {W : WX} : St1 (Run (tRaiseErr C W as) nx rt bk ct σ H) (as σ H fun vs H1 => rRaise C W σ vs H1) := ⟨fun h => h⟩
instance i_for {wi : TI} {g : TG} : St1 (Run (tFor wi g t) nx rt bk ct σ H) (wi σ H fun J H1 => rFor J g t nx rt bk ct σ H1) := ⟨fun h => h⟩
instance i_brT : St1 (Br true A B) A := ⟨br_t⟩
instance i_brF : St1 (Br false A B) B := ⟨br_f⟩
instance i_brN : St1 (Br (!b) A B) (Br b B A) := ⟨br_not⟩
instance i_brE {α : Type} {a : α} {d : Decidable (a = a)} : St1 (Br (@decide (a = a) d) A B) A := ⟨fun h => by rw [decide_eq_true rfl]; exact br_t h⟩
instance i_brE2 {α β : Type} {a : α} {b : β} {d : Decidable (a = a ∧ b = b)} : St1 (Br (@decide (a = a ∧ b = b) d) A B) A := ⟨fun h => by rw [decide_eq_true ⟨rfl, rfl⟩]; exact br_t h⟩
theorem br_andJ {A B : Prop} [Decidable A] [Decidable B] (h2 : ∀ Q' : VK, Q' (.bl (decide B)) H → tb σ H Q') (q : Q (.bl (decide (A ∧ B))) H) : Br (decide A) (tb σ H Q) (Q (.bl false) H) := br_d (fun a => h2 _ (by rw [dec_congr (q := A ∧ B) ⟨fun b => ⟨a, b⟩, fun z => z.2⟩]; exact q)) (fun a => by rw [← decide_eq_false (p := A ∧ B) fun z => a z.1]; exact q)
theorem br_orJ {A B : Prop} [Decidable A] [Decidable B] (h2 : ∀ Q' : VK, Q' (.bl (decide B)) H → tb σ H Q') (q : Q (.bl (decide (A ∨ B))) H) : Br (decide A) (Q (.bl true) H) (tb σ H Q) := br_d (fun a => by rw [← decide_eq_true (p := A ∨ B) (.inl a)]; exact q) (fun a => h2 _ (by rw [dec_congr (q := A ∨ B) ⟨fun b => .inr b, fun z => z.resolve_left a⟩]; exact q))
/-- the slots of a comprehension's names, empty -/
class WipeS (σ : L2.St) (vs : List Nat) (σ' : outParam L2.St) : Prop where
  h : wipe σ vs = σ'
instance wipe_nil : WipeS σ [] σ := ⟨rfl⟩
instance wipe_cons {n : Nat} {vs : List Nat} {σ1 σ2 : L2.St} [a : WipeS σ vs σ1] [b : SetS σ1 n none σ2] : WipeS σ (n :: vs) σ2 := ⟨by show (wipe σ vs).set n none = σ2; rw [a.h, b.h]⟩
instance i_var [a : Slot1 σ n v] : St1 (tVar n σ H Q) (Q v H) := ⟨fun h => ⟨v, a.h, h⟩⟩
instance i_c : St1 (tC v σ H Q) (Q v H) := ⟨fun h => h⟩
instance i_op {r : R2} : St1 (tOp r ta tb σ H Q) (ta σ H fun x H1 => tb σ H1 fun y H2 => r x y H2 Q) := ⟨fun h => h⟩
instance i_opS {r : R2S} : St1 (tOpS r ta tb σ H Q) (ta σ H fun x H1 => tb σ H1 fun y H2 => r σ x y H2 Q) := ⟨fun h => h⟩
instance i_un {r : V → Hp → VK → Prop} : St1 (tUn r ta σ H Q) (ta σ H fun x H1 => r x H1 Q) := ⟨fun h => h⟩
instance i_unS {r : L2.St → V → Hp → VK → Prop} : St1 (tUnS r ta σ H Q) (ta σ H fun x H1 => r σ x H1 Q) := ⟨fun h => h⟩
instance i_nil : St1 (tNil σ H QA) (QA [] H) := ⟨fun h => h⟩
instance i_cons : St1 (tCons ta tr σ H QA) (ta σ H fun x H1 => tr σ H1 fun xs H2 => QA (x :: xs) H2) := ⟨fun h => h⟩
instance i_cb {r : List V → Hp → VK → Prop} : St1 (tCB r as σ H Q) (as σ H fun vs H1 => r vs H1 Q) := ⟨fun h => h⟩
instance i_cbS {r : L2.St → List V → Hp → VK → Prop} : St1 (tCBS r as σ H Q) (as σ H fun vs H1 => r σ vs H1 Q) := ⟨fun h => h⟩
/-- the arguments with the defaults -/
class AppV (vs ds : List V) (ws : outParam (List V)) : Prop where
  h : vs ++ ds = ws
instance app_nil {ds : List V} : AppV [] ds ds := ⟨rfl⟩
instance app_cons {vs ds ws : List V} [a : AppV vs ds ws] : AppV (v :: vs) ds (v :: ws) := ⟨by rw [List.cons_append, a.h]⟩
def SpAt (sp : Sp) (dvs vs : List V) (H : Hp) (Q : VK) (E : XK) : Prop := sp (vs ++ dvs) H Q E
instance i_fn {dvs : List V} : St1 (tCallSD sp dvs E as σ H Q) (as σ H fun vs H1 => SpAt sp dvs vs H1 Q (E σ)) := ⟨fun h => h⟩
instance i_sp {dvs vs ws : List V} {E : XK} [a : AppV vs dvs ws] : St1 (SpAt sp dvs vs H Q E) (sp ws H Q E) := ⟨fun h => by unfold SpAt; rw [a.h]; exact h⟩
def MkAt (C : Addr) (sp : Sp) (dvs vs : List V) (H : Hp) (Q : VK) (E : XK) : Prop := rMk C sp E (vs ++ dvs) H Q
instance i_mk {C : Addr} {dvs : List V} : St1 (tMkS C sp dvs E as σ H Q) (as σ H fun vs H1 => MkAt C sp dvs vs H1 Q (E σ)) := ⟨fun h => h⟩
instance i_mkA {C : Addr} {dvs vs ws : List V} {E : XK} [a : AppV vs dvs ws] : St1 (MkAt C sp dvs vs H Q E) (rMk C sp E ws H Q) := ⟨fun h => by unfold MkAt; rw [a.h]; exact h⟩
instance i_tupE : St1 (tTup as σ H Q) (as σ H fun xs H1 => rTup xs H1 Q) := ⟨fun h => h⟩
instance i_lstE : St1 (tLst as σ H Q) (as σ H fun xs H1 => rLst xs H1 Q) := ⟨fun h => h⟩
instance i_fld {f : Str} : St1 (tFld K ta f σ H Q) (ta σ H fun x H1 => rFld K f x H1 Q) := ⟨fun h => h⟩
instance i_test : St1 (tTest te σ H QB) (te σ H fun x H' => rTest x H' QB) := ⟨fun h => h⟩
instance i_testB : St1 (rTest (.bl b) H QB) (QB b H) := ⟨r_test⟩
instance i_tru : St1 (tTru K te σ H QB) (te σ H fun x H' => rTru K x H' QB) := ⟨fun h => h⟩
instance i_truB : St1 (rTru K (.bl b) H QB) (QB b H) := ⟨r_truB⟩
instance i_not : St1 (tNot tt σ H QB) (tt σ H fun c H1 => QB (!c) H1) := ⟨fun h => h⟩
instance i_and : St1 (tAnd tt tu σ H QB) (tt σ H fun c H1 => Br c (tu σ H1 QB) (QB false H1)) := ⟨fun h => h⟩
instance i_or : St1 (tOr tt tu σ H QB) (tt σ H fun c H1 => Br c (QB true H1) (tu σ H1 QB)) := ⟨fun h => h⟩
instance i_andV : St1 (tAndV ta tb σ H Q) (ta σ H fun x H1 => rAndV tb σ x H1 Q) := ⟨fun h => h⟩
instance i_orV : St1 (tOrV ta tb σ H Q) (ta σ H fun x H1 => rOrV tb σ x H1 Q) := ⟨fun h => h⟩
instance i_notV : St1 (tNotV ta σ H Q) (ta σ H fun x H1 => rNotV x H1 Q) := ⟨fun h => h⟩
instance i_andB : St1 (rAndV tb σ (.bl b) H Q) (Br b (tb σ H Q) (Q (.bl false) H)) := ⟨r_andV⟩
instance i_orB : St1 (rOrV tb σ (.bl b) H Q) (Br b (Q (.bl true) H) (tb σ H Q)) := ⟨r_orV⟩
instance i_notB : St1 (rNotV (.bl b) H Q) (Q (.bl (!b)) H) := ⟨r_notV⟩
instance i_ifE : St1 (tIf tt ta tb σ H Q) (tt σ H fun c H1 => Br c (ta σ H1 Q) (tb σ H1 Q)) := ⟨fun h => h⟩
instance i_chain {r r' : R2} : St1 (tChain r r' ta tb tc σ H Q) (ta σ H fun x H1 => tb σ H1 fun y H2 => r x y H2 fun z H3 => rChain r' tc σ y z H3 Q) := ⟨fun h => h⟩
instance i_chainB {r' : R2} : St1 (rChain r' tc σ y (.bl b) H Q) (Br b (tc σ H fun w' H4 => r' y w' H4 Q) (Q (.bl false) H)) := ⟨r_chain⟩
instance j_add : St1 (uAdd K (.int i) (.int j) H Q) (Q (.int (i + j)) H) := ⟨v_add⟩
instance j_sub : St1 (uSub (.int i) (.int j) H Q) (Q (.int (i - j)) H) := ⟨v_sub⟩
instance j_lt : St1 (uLt (.int i) (.int j) H Q) (Q (.bl (decide (i < j))) H) := ⟨v_lt⟩
instance j_le : St1 (uLe (.int i) (.int j) H Q) (Q (.bl (decide (i ≤ j))) H) := ⟨v_le⟩
instance j_gt : St1 (uGt (.int i) (.int j) H Q) (Q (.bl (decide (j < i))) H) := ⟨v_gt⟩
instance j_ge : St1 (uGe (.int i) (.int j) H Q) (Q (.bl (decide (j ≤ i))) H) := ⟨v_ge⟩
instance j_eq : St1 (uEq K (.int i) (.int j) H Q) (Q (.bl (decide (i = j))) H) := ⟨v_eq⟩
instance j_ne : St1 (uNe K (.int i) (.int j) H Q) (Q (.bl (!decide (i = j))) H) := ⟨v_ne⟩
instance j_eqB {b b' : Bool} : St1 (uEq K (.bl b) (.bl b') H Q) (Q (.bl (decide (b = b'))) H) := ⟨v_eqB⟩
instance j_neB {b b' : Bool} : St1 (uNe K (.bl b) (.bl b') H Q) (Q (.bl (!decide (b = b'))) H) := ⟨v_neB⟩
instance j_eqS {z z' : Str} : St1 (uEq K (.str z) (.str z') H Q) (Q (.bl (decide (z = z'))) H) := ⟨v_eqS⟩
instance j_neS {z z' : Str} : St1 (uNe K (.str z) (.str z') H Q) (Q (.bl (!decide (z = z'))) H) := ⟨v_neS⟩
instance j_neg : St1 ((rU fun i => .int (-i)) (.int i) H Q) (Q (.int (-i)) H) := ⟨v_neg⟩
instance j_int : St1 (cInt [.int i] H Q) (Q (.int i) H) := ⟨v_int⟩
instance j_intB : St1 (cInt [.bl b] H Q) (Q (.int (if b then 1 else 0)) H) := ⟨v_intB⟩
instance j_bool : St1 (cBool [.bl b] H Q) (Q (.bl b) H) := ⟨v_boolB⟩
instance j_min : St1 (cMin2 [.int i, .int j] H Q) (Q (.int (min i j)) H) := ⟨v_min2⟩
instance j_max : St1 (cMax2 [.int i, .int j] H Q) (Q (.int (max i j)) H) := ⟨v_max2⟩
instance j_abs : St1 (cAbs [.int i] H Q) (Q (.int (if i < 0 then -i else i)) H) := ⟨v_abs⟩
instance j_isII : St1 (rIsi K [.int i, .ty "int"] H Q) (Q (.bl true) H) := ⟨v_isII⟩
instance j_isIB : St1 (rIsi K [.int i, .ty "bool"] H Q) (Q (.bl false) H) := ⟨v_isIB⟩
instance j_isBB : St1 (rIsi K [.bl b, .ty "bool"] H Q) (Q (.bl true) H) := ⟨v_isBB⟩
instance i_subj {a : Addr} {cls : Value} {d : Option Addr} : St1 (tSubj K mg a cls d te σ H Q) (te σ H fun x H1 => rSubj K mg a cls d x H1 Q) := ⟨fun h => h⟩
instance i_lstRg2 : St1 (tLstRg (tRg2 ta tb) σ H Q) (ta σ H fun x H1 => tb σ H1 fun y H2 => rRg2 x y H2 fun a b H3 => rLstRg a b H3 Q) := ⟨fun h => h⟩
instance j_rg2 {Q : Int → Int → Hp → Prop} : St1 (rRg2 (.int i) (.int j) H Q) (Q i j H) := ⟨v_rg2⟩
instance i_gname {k : L2.St → Hp → Prop} : St1 (gName n v σ H k) (Kont k σ n (some v) H) := ⟨fun h => h⟩
instance i_gcons {xs : List V} {g : TG} {tg : TGs} {k : L2.St → Hp → Prop} : St1 (gCons g tg (v :: xs) σ H k) (g v σ H fun σ' H' => tg xs σ' H' k) := ⟨g_cons⟩
instance i_gnil {k : L2.St → Hp → Prop} : St1 (gNil [] σ H k) (k σ H) := ⟨g_nil⟩
instance i_irng1 {R : It → Hp → Prop} : St1 (iRng1 as σ H R) (as σ H fun vs H1 => rRng1 vs H1 R) := ⟨fun h => h⟩
instance i_irng2 {R : It → Hp → Prop} : St1 (iRng2 as σ H R) (as σ H fun vs H1 => rRng2 vs H1 R) := ⟨fun h => h⟩
instance i_ilist {R : It → Hp → Prop} : St1 (iList K te σ H R) (te σ H fun x H1 => rSeqL K x H1 R) := ⟨fun h => h⟩
instance i_itup {R : It → Hp → Prop} : St1 (iTup K te σ H R) (te σ H fun x H1 => rSeqT K x H1 R) := ⟨fun h => h⟩
instance i_lc {wi : TI} {g : TG} {vs : List Nat} : St1 (tLc wi g tt te vs σ H Q) (wi σ H fun J H1 => rLc J g tt te vs σ H1 Q) := ⟨fun h => h⟩
instance i_bm {T : String} {r : V → List V → Hp → VK → Prop} : St1 (tBM K T r ta as σ H Q) (ta σ H fun x H1 => tyV K T x H1 ∧ as σ H1 fun xs H2 => r x xs H2 Q) := ⟨fun h => h⟩
instance i_bm0 {T : String} {r : V → List V → Hp → VK → Prop} : St1 (tBM0 K T r ta σ H Q) (ta σ H fun x H1 => tyV K T x H1 ∧ r x [] H1 Q) := ⟨fun h => h⟩
/-- the element of a comprehension, its names set -/
def LcK (vs : List Nat) (σw : L2.St) (te : TE) (k : VK) (σ2 : L2.St) (H2 : Hp) : Prop := wipe σ2 vs = σw ∧ te σ2 H2 k
instance i_lck {vs : List Nat} {σw : L2.St} [a : WipeS σ vs σw] : St1 (LcK vs σw te Q σ H) (te σ H Q) := ⟨fun h => ⟨a.h, h⟩⟩
theorem lcR {lo : Int} {n : Nat} {g : TG} {vs : List Nat} {σw : L2.St} [a : WipeS σ vs σw] (Pv : Nat → Addr → List V → Hp → Prop) (h0 : ∀ D H1, H D = none → Ext H H1 → H1 D = some (.lst []) → Pv 0 D [] H1)
    (hs : ∀ i D acc H1, H D = none → i < n → H1 D = some (.lst acc) → acc.length = i → Pv i D acc H1 → g (.int (lo + i)) σw H1 fun σ2 H2 => LcK vs σw te (fun y H4 => rAcc D (LcAt D (i + 1) (Pv (i + 1) D)) y H4) σ2 H2)
    (hd : ∀ D acc H1, H D = none → H1 D = some (.lst acc) → acc.length = n → Pv n D acc H1 → Q (.ref D) H1) : rLc (Itr lo n) g tYes te vs σ H Q :=
  lc_rng Pv h0 (fun i D acc H1 hD hi h1 hl hp => by rw [a.h]; exact hs i D acc H1 hD hi h1 hl hp) hd
theorem lcL {ad : Addr} {xs : List V} {g : TG} {vs : List Nat} {σw : L2.St} [a : WipeS σ vs σw] (Pv : Nat → Addr → List V → Hp → Prop) (h0 : ∀ D H1, H D = none → Ext H H1 → H1 D = some (.lst []) → Pv 0 D [] H1)
    (hl : ∀ i D acc H1, H D = none → i ≤ xs.length → Pv i D acc H1 → SqL K H1 ad xs)
    (hs : ∀ i x D acc H1, H D = none → xs[i]? = some x → H1 D = some (.lst acc) → acc.length = i → Pv i D acc H1 → g x σw H1 fun σ2 H2 => LcK vs σw te (fun y H4 => rAcc D (LcAt D (i + 1) (Pv (i + 1) D)) y H4) σ2 H2)
    (hd : ∀ D acc H1, H D = none → H1 D = some (.lst acc) → acc.length = xs.length → Pv xs.length D acc H1 → Q (.ref D) H1) : rLc (Itl K ad) g tYes te vs σ H Q :=
  lc_lst (xs := xs) Pv h0 hl (fun i x D acc H1 hD hi h1 hl' hp => by rw [a.h]; exact hs i x D acc H1 hD hi h1 hl' hp) hd
end
end GG

/-! GV: == of an own instance and a value of another kind, both ways. -/
namespace GG
open PySem L2 PyProof.Rows
section
variable {X : Cx} {CX : CXT} {k : Nat} {C f : Addr} {fd : FuncData} {ps : List Str} {sp : Sp} {E : L2.St → XK}
/-- x == y by the text's own ==, y of a built-in type T -/
def rOwnEqT (C : Addr) (sp : Sp) (E : L2.St → XK) : R2S := fun σ x y H Q => ∃ a dx fs, x = .ref a ∧ H a = some (.ins C dx fs) ∧ ((∃ i, y = .int i) ∨ ∃ b ys, y = .ref b ∧ H b = some (.tup ys)) ∧ sp [.ref a, y] H Q (E σ)
theorem op_ownEqT (S : Sm X.prog X.w X.K X.mg X.base C "__eq__" k ps sp) (hr : Room k X.A) (hx : Ps X E) (h1 : PySem.W.notFirst X.K C (.type "int") = true) (h2 : PySem.W.notFirst X.K C (.type "tuple") = true) : OpS X (compareOp .Eq) (rOwnEqT C sp E) := by
  intro pins s σ H x y v u Q I rx ry hq
  obtain ⟨f, fd, F, hs, hf, hb⟩ := S.ex
  obtain ⟨a, dx, fs, rfl, ha, hy, q⟩ := hq
  cases rx
  obtain ⟨_, _, J⟩ := inst_of I ha
  obtain ⟨m, hF⟩ := I.fr
  show wpAny (model X.prog X.w) X.A (richCompare .Eq _ _) (EP X pins σ Q) X.xe s
  rcases hy with ⟨i, rfl⟩ | ⟨b, ys, rfl, hb'⟩
  · obtain ⟨t, rfl⟩ := (show ∃ t, u = Value.int i t from ry)
    refine PySem.W.cmp_K (op := .Eq) (tb := .type "int") hr.units0 hF I.ok.mod.kin J (PySem.W.Looks.of_pure rfl) h1 hs hf ?_
    exact thn (run_at0 (vs := [.ref a, .int i]) F hr rfl hb (hx σ) I (.cons rfl (.cons ⟨t, rfl⟩ .nil)) q) fun _ _ z => cmpBack_ep z
  · cases (show u = Value.ref b from ry)
    obtain ⟨_, its, rv, o, g1, g2, n, g3⟩ := (show ObjOk X.prog X.w H s.heap b (.tup ys) from I.hok b _ hb')
    have ty : PySem.W.Looks (model X.prog X.w) s.heap (typeOf (.ref b)) (.type "tuple") := by
      intro A' Q' E' s' k' q'
      exact wpAny_typeOf (show s'.TypeIs (.ref b) "tuple" from ⟨o, k' _ _ g1, g2⟩) q'
    refine PySem.W.cmp_K (op := .Eq) (tb := .type "tuple") hr.units0 hF I.ok.mod.kin J ty h2 hs hf ?_
    exact thn (run_at0 (vs := [.ref a, .ref b]) F hr rfl hb (hx σ) I (.cons rfl (.cons rfl .nil)) q) fun _ _ z => cmpBack_ep z
/-- int.__eq__ declines an own instance -/
theorem int_eq_own {A : Around} {s : Shared} {i : Int} {t : Tok} {a : Addr} {Q : Value → Shared → Prop} {E : Value → Shared → Prop} {prog : Program} {w : World} {dx : Addr} (ho : s.heap.get? a = some (PySem.W.instObj C dx)) (h : Q .notImplemented s) :
    wpAny (model prog w) A (call (.builtin "int.__eq__") [.int i t, .ref a]) Q E s := by
  refine wpAny_call (codeAny_call_builtin F.slot_int_eq.plain F.entry_int_eq (F.slot_int_eq.check _ _ _ _ _ _ _ _ (typeIs_int s i t) (F.args_int_eq_2 _ _) ?_))
  obtain ⟨hp, g, d, tk, os⟩ := s
  have ho' : hp.get? a = some (PySem.W.instObj C dx) := ho
  unfold PySem.W.instObj at ho'
  wp_walk using wpAny_load ho'
  exact h
/-- y == x, y an int: int declines, the text's own == is asked -/
def rEqOwnR (C : Addr) (sp : Sp) (E : L2.St → XK) : R2S := fun σ y x H Q => ∃ a dx fs i, y = .int i ∧ x = .ref a ∧ H a = some (.ins C dx fs) ∧ sp [.ref a, .int i] H Q (E σ)
theorem op_eqOwnR (S : Sm X.prog X.w X.K X.mg X.base C "__eq__" k ps sp) (hr : Room k X.A) (hx : Ps X E) (hsub : PySem.W.subIn X.K (.ref C) (.type "int") = some false) : OpS X (compareOp .Eq) (rEqOwnR C sp E) := by
  intro pins s σ H y x v u Q I ry rx hq
  obtain ⟨f, fd, F, hs, hf, hb⟩ := S.ex
  obtain ⟨a, dx, fs, i, rfl, rfl, ha, q⟩ := hq
  cases rx
  obtain ⟨t, rfl⟩ := (show ∃ t, v = Value.int i t from ry)
  obtain ⟨_, _, J⟩ := inst_of I ha
  have ho : s.heap.get? a = some (PySem.W.instObj C dx) := (show ObjOk X.prog X.w H s.heap a (.ins C dx fs) from I.hok a _ ha).2.2.2.1
  have XK := I.kIn
  show wpAny (model X.prog X.w) X.A (richCompare .Eq _ _) (EP X pins σ Q) X.xe s
  have one : wpAny (model X.prog X.w) X.A (tryCompare (.ref a) "__eq__" (.int i t)) (fun r s' => ∃ v, r = some v ∧ EP X pins σ Q v s') X.xe s := by
    unfold tryCompare
    refine wpAny_bind (PySem.W.ifBound_K XK J hs hf (thn (run_at0 (vs := [.ref a, .int i]) F hr rfl hb (hx σ) I (.cons rfl (.cons ⟨t, rfl⟩ .nil)) q) fun v s' hv => ?_))
    have hv' := cmpBack_ep hv
    cases v <;> first | exact hv'.elim | exact wpAny_pure ⟨_, rfl, hv⟩
  unfold richCompare
  have on : oneThing? .Eq (.int i t) (.ref a) = none := by rfl
  simp only [on]
  refine wpAny_holding (wpAny_bind (wpAny_cRoomFor hr.units0 ?_))
  refine wpAny_bind (wpAny_typeOf (typeIs_int s i t) (wpAny_bind (J.type.here ?_)))
  have hne : (Value.type "int" != Value.ref C) = true := rfl
  rw [if_pos hne]
  refine wpAny_bind ((PySem.W.looks_subIn XK hsub).here ?_)
  simp only [Bool.false_eq_true, if_false, Bool.not_false, if_true]
  refine wpAny_bind (m := tryCompare (.int i t) _ (.ref a)) (wpAny_tryCompare_declines (typeIs_int s i t) PySem.F.slot_int_eq (int_eq_own ho ⟨rfl, ?_⟩))
  refine wpAny_bind (m := tryCompare (.ref a) _ (.int i t)) (thn one fun r s' hr' => ?_)
  obtain ⟨v, rfl, hq⟩ := hr'
  exact wpAny_pure hq
end
/-! ### properties -/
structure Pr (P : Program) (w : World) (K : PySem.W.Frag) (mg : Str → Option Value) (base : Heap) (C : Addr) (m : Str) (k : Nat) (ps : List Str) (sp : Sp) : Prop where
  ex : ∃ p g fd, FnOk P w K mg base (L2N.CX P w) k g fd ps sp ∧ PropOf K C m p g ∧ L2.Binds K fd ps []
  cls : Cls K C
theorem passN {X : Cx} : Passes (L2N.CX X.prog X.w) X E0 := fun _ _ _ _ _ _ _ h => by
  obtain ⟨_, _, _, _, _, _, _, _, _, _, _, _, z⟩ := h
  exact z.elim
theorem pe_pr {X : Cx} {C : Addr} {m : Str} {k : Nat} {ps : List Str} {sp : Sp} {e : Expr} {ta : TE} {pos : Pos} (F : Pr X.prog X.w X.K X.mg X.base C m k ps sp) (hr : Room (k + 1) X.A) (he : PE X e ta) (hab : attributeBase e m X.env (eval e X.env) = eval e X.env) :
    PE X (.Attribute e m pos) (tProp C sp [] E0 ta) := by
  obtain ⟨⟨p, g, fd, F, hp, hb⟩, c⟩ := F
  exact pe_prop he c hp F hr hb .nil (passN (X := X.nox)) hab
section
variable {K : PySem.W.Frag} {mg : Str → Option Value} {nx bk ct : L2.St → Hp → Prop} {rt : VK} {σ σ' σ1 σ2 : L2.St} {H : Hp} {t u : TS} {te ta tb tc : TE} {tt tu : TT} {as tr : TA} {Q : VK} {QB : Bool → Hp → Prop} {v x y : V} {E : L2.St → XK} {sp : Sp} {i j : Int} {n m : Nat} {b : Bool} {A B : Prop}
def rProp (C : Addr) (sp : Sp) (x : V) (H : Hp) (Q : VK) : Prop := ∃ a dx fs, x = .ref a ∧ H a = some (.ins C dx fs) ∧ sp [.ref a] H Q E0
instance i_prop {C : Addr} : St1 (tProp C sp [] E0 ta σ H Q) (ta σ H fun x H1 => rProp C sp x H1 Q) := ⟨fun h => h⟩
theorem v_prop {C a dx : Addr} {fs : List (Str × V)} (ha : H a = some (.ins C dx fs)) (q : sp [.ref a] H Q E0) : rProp C sp (.ref a) H Q := ⟨a, dx, fs, rfl, ha, q⟩
/-! ### own == with another kind -/
theorem v_ownEqI {C a dx : Addr} {fs : List (Str × V)} (ha : H a = some (.ins C dx fs)) (q : sp [.ref a, .int i] H Q (E σ)) : rOwnEqT C sp E σ (.ref a) (.int i) H Q := ⟨a, dx, fs, rfl, ha, .inl ⟨i, rfl⟩, q⟩
theorem v_ownEqU {C a dx b : Addr} {fs : List (Str × V)} {ys : List V} (ha : H a = some (.ins C dx fs)) (hb : H b = some (.tup ys)) (q : sp [.ref a, .ref b] H Q (E σ)) : rOwnEqT C sp E σ (.ref a) (.ref b) H Q := ⟨a, dx, fs, rfl, ha, .inr ⟨b, ys, rfl, hb⟩, q⟩
theorem v_eqOwnR {C a dx : Addr} {fs : List (Str × V)} (ha : H a = some (.ins C dx fs)) (q : sp [.ref a, .int i] H Q (E σ)) : rEqOwnR C sp E σ (.int i) (.ref a) H Q := ⟨a, dx, fs, i, rfl, rfl, ha, q⟩
/-! ### x, y = e, f -/
def rPar (n m : Nat) (nx : L2.St → Hp → Prop) (σ : L2.St) (vs : List V) (H : Hp) : Prop := ∃ v w, vs = [v, w] ∧ nx ((σ.set n (some v)).set m (some w)) H
instance (priority := high) i_parR : St1 (Run (tPar n m as) nx rt bk ct σ H) (as σ H fun vs H1 => rPar n m nx σ vs H1) := ⟨fun h => h⟩
instance i_parV [a : SetS σ n (some v) σ1] [b : SetS σ1 m (some x) σ2] : St1 (rPar n m nx σ [v, x] H) (nx σ2 H) := ⟨fun h => ⟨v, x, rfl, by rw [a.h, b.h]; exact h⟩⟩
/-! ### while -/
def rWh (m : Nat) (Pv : Nat → L2.St → Hp → Prop) (t : TS) (nx : L2.St → Hp → Prop) (rt : VK) (σ : L2.St) (b : Bool) (H : Hp) : Prop :=
  if b = true then ∃ N : L2.St → Hp → Prop, (∀ σ' H', N σ' H' → ∃ m', m' < m ∧ Pv m' σ' H') ∧ t ⟨N, rt, nx, N⟩ σ H else nx σ H
theorem run_while (Pv : Nat → L2.St → Hp → Prop) (h0 : ∃ m, Pv m σ H) (hs : ∀ m σ H, Pv m σ H → tt σ H fun b H1 => rWh m Pv t nx rt σ b H1) : Run (tWhile tt t) nx rt bk ct σ H := ⟨Pv, h0, hs⟩
instance i_wh {Pv : Nat → L2.St → Hp → Prop} : St1 (rWh m Pv t nx rt σ b H) (Br b (Run t (fun σ' H' => ∃ m', m' < m ∧ Pv m' σ' H') rt nx (fun σ' H' => ∃ m', m' < m ∧ Pv m' σ' H') σ H) (nx σ H)) := ⟨fun h => by
  cases b with
  | true => exact iteT ⟨_, fun _ _ z => z, h⟩
  | false => exact iteF h⟩
end
/-! ### a def with one default -/
theorem funD_mk {K : PySem.W.Frag} {x qual : Str} {st : Stmt} {f T : Addr} {oc oc' : Value} {od an od' : Option Addr} {osl osl' : Array (Option Value)} {kV doc pm cdv ct u : Value} {n : Nat} {v : V} (l : K.lookup f = some ⟨oc, od, .func (PySem.W.fnOf x qual (defArgs st) (defBody st) (defScope st) (.ref T) kV doc pm an cdv ct), osl⟩)
    (c : PySem.W.codeIn K cdv qual = true) (k : PySem.W.keepIn K (.ref f) = true) (lT : K.lookup T = some ⟨oc', od', .seq #[u] n, osl'⟩) (r : RelV v u) :
    FunD K x qual (defArgs st) (defBody st) (defScope st) [v] [] f (PySem.W.fnOf x qual (defArgs st) (defBody st) (defScope st) (.ref T) kV doc pm an cdv ct) :=
  ⟨⟨oc, od, _, kV, doc, pm, an, cdv, ct, osl, rfl, l, c, .inr ⟨by simp, T, _, [u], n, rfl, lT, rfl, .cons r .nil⟩, .inl rfl⟩, k⟩
end GG

/-! GW: i op x, i an int, x an own instance: int declines, the text's own reflected operator is asked. -/
namespace GG
open PySem L2 PyProof.Rows
section
variable {X : Cx} {CX : CXT} {k : Nat} {C f : Addr} {fd : FuncData} {ps : List Str} {sp : Sp} {E : L2.St → XK}
/-- a built-in of int declines an own instance -/
def Declines (C : Addr) (id : String) : Prop := ∀ (prog : Program) (w : World) (A : Around) (s : Shared) (i : Int) (t : Tok) (a : Addr) (Q : Value → Shared → Prop) (E : Value → Shared → Prop) (dx : Addr),
  s.heap.get? a = some (PySem.W.instObj C dx) → Q .notImplemented s → wpAny (model prog w) A (call (.builtin id) [.int i t, .ref a]) Q E s
theorem int_add_own : Declines C "int.__add__" := by
  intro prog w A s i t a Q E dx ho h
  refine wpAny_call (codeAny_call_builtin F.slot_int_add.plain F.entry_int_add (F.slot_int_add.check _ _ _ _ _ _ _ _ (typeIs_int s i t) (F.args_int_add_2 _ _) ?_))
  obtain ⟨hp, g, d, tk, os⟩ := s
  have ho' : hp.get? a = some (PySem.W.instObj C dx) := ho
  unfold PySem.W.instObj at ho'
  wp_walk using wpAny_load ho'
  exact h
theorem int_sub_own : Declines C "int.__sub__" := by
  intro prog w A s i t a Q E dx ho h
  refine wpAny_call (codeAny_call_builtin F.slot_int_sub.plain F.entry_int_sub (F.slot_int_sub.check _ _ _ _ _ _ _ _ (typeIs_int s i t) (F.args_int_sub_2 _ _) ?_))
  obtain ⟨hp, g, d, tk, os⟩ := s
  have ho' : hp.get? a = some (PySem.W.instObj C dx) := ho
  unfold PySem.W.instObj at ho'
  wp_walk using wpAny_load ho'
  exact h
theorem int_mul_own : Declines C "int.__mul__" := by
  intro prog w A s i t a Q E dx ho h
  refine wpAny_call (codeAny_call_builtin F.slot_int_mul.plain F.entry_int_mul (F.slot_int_mul.check _ _ _ _ _ _ _ _ (typeIs_int s i t) (F.args_int_mul_2 _ _) ?_))
  obtain ⟨hp, g, d, tk, os⟩ := s
  have ho' : hp.get? a = some (PySem.W.instObj C dx) := ho
  unfold PySem.W.instObj at ho'
  wp_walk using wpAny_load ho'
  exact h
def IntL (C : Addr) (nm : String) : Prop := ∃ id, Slot "int" (PySem.dunder nm) id ∧ fillsNumberSlot (.type "int") nm = pure true ∧ Declines C id
theorem il_add : IntL C "add" := ⟨_, F.slot_int_add, F.fills_int_add, int_add_own⟩
theorem il_sub : IntL C "sub" := ⟨_, F.slot_int_sub, F.fills_int_sub, int_sub_own⟩
theorem il_mul : IntL C "mul" := ⟨_, F.slot_int_mul, F.fills_int_mul, int_mul_own⟩
theorem Sm.lk {P : Program} {w : World} {K : PySem.W.Frag} {mg : Str → Option Value} {base : Heap} {name : Str} (S : Sm P w K mg base C name k ps sp) : ∃ f, PySem.W.findIn K (.ref C) name = some (some (.ref f)) := by
  obtain ⟨f, fd, F, hs, _⟩ := S.ex
  exact ⟨f, hs⟩
def rIntOwn (C : Addr) (sp : Sp) (E : L2.St → XK) : R2S := fun σ y x H Q => ∃ a dx fs i, y = .int i ∧ x = .ref a ∧ H a = some (.ins C dx fs) ∧ sp [.ref a, .int i] H Q (E σ)
theorem op_intOwn {op : Operator} (S : Sm X.prog X.w X.K X.mg X.base C (dunderR op.info.2) k ps sp) (hr : Room k X.A) (hx : Ps X E) (hc : PySem.W.selfFirst X.K C = true) (hl : ∃ fn, PySem.W.findIn X.K (.ref C) (PySem.dunder op.info.2) = some (some (.ref fn)))
    (hil : IntL C op.info.2) (hsub : PySem.W.subIn X.K (.ref C) (.type "int") = some false) : OpS X (binaryOp op) (rIntOwn C sp E) := by
  intro pins s σ H y x v u Q I ry rx hq
  obtain ⟨f, fd, F, hs, hf, hb⟩ := S.ex
  obtain ⟨fn, hl⟩ := hl
  obtain ⟨id, hsl, hfl, hd⟩ := hil
  obtain ⟨a, dx, fs, i, rfl, rfl, ha, q⟩ := hq
  cases rx
  obtain ⟨t, rfl⟩ := (show ∃ t, v = Value.int i t from ry)
  obtain ⟨_, _, J⟩ := inst_of I ha
  have ho : s.heap.get? a = some (PySem.W.instObj C dx) := (show ObjOk X.prog X.w H s.heap a (.ins C dx fs) from I.hok a _ ha).2.2.2.1
  have XK := I.kIn
  have J' : PySem.W.Looks (model X.prog X.w) s.heap (typeOf (.ref a)) (.ref C) := J.type
  have one := PySem.W.ksp_try (b := .int i t) XK J hs hf (thn (run_at0 (vs := [.ref a, .int i]) F hr rfl hb (hx σ) I (.cons rfl (.cons ⟨t, rfl⟩ .nil)) q) fun _ _ z => cmpBack_ep z)
  obtain ⟨cd, rest, hcd, hm⟩ := PySem.W.ksp_first hc
  rcases hi : op.info with ⟨sym, nm⟩
  rw [hi] at hl hsl hfl one
  dsimp only at hl hsl hfl one
  have two : ∀ Q' : Option Value → Shared → Prop, Q' none s → wpAny (model X.prog X.w) X.A (tryMethod (.int i t) (PySem.dunder nm) (.ref a)) Q' X.xe s := fun Q' q' => wpAny_tryMethod_declines (typeIs_int s i t) hsl (hd _ _ _ s i t a _ _ dx ho ⟨rfl, q'⟩)
  clear q I ha hx ho J
  obtain ⟨hh, g, d, tt, os⟩ := s
  have L1 : PySem.W.Looks (model X.prog X.w) hh (typeOf (.int i t)) (.type "int") := PySem.W.Looks.of_pure rfl
  have L2 : PySem.W.Looks (model X.prog X.w) hh (typeOf (.ref a)) (.ref C) := J'
  have L3 : PySem.W.Looks (model X.prog X.w) hh (fillsNumberSlot (.ref C) nm) true := PySem.W.fills_K XK hcd hm hl
  have L4 : PySem.W.Looks (model X.prog X.w) hh (fillsNumberSlot (.type "int") nm) true := PySem.W.Looks.of_pure hfl
  have L5 : PySem.W.Looks (model X.prog X.w) hh (isSubtype (.ref C) (.type "int")) false := PySem.W.looks_subIn XK hsub
  have L6 : PySem.W.Looks (model X.prog X.w) hh (numberSlotInPython (.type "int") nm) false := PySem.W.Looks.of_pure rfl
  have hne : (Value.type "int" == Value.ref C) = false := rfl
  simp only [binaryOp, hi]
  refine wpAny_holding (wpAny_bind ?_)
  unfold binaryOp1
  refine wpAny_bind (L1.at (wpAny_bind (L2.at (wpAny_bind (L4.at ?_)))))
  simp only [hne, Bool.false_eq_true, if_false]
  ksp_lk
  refine two _ ?_
  ksp_lk
  refine wpAny_mono one (fun r s' hr' => ?_) fun _ _ e => e
  obtain ⟨v, rfl, hq⟩ := hr'
  ksp_lk
  exact hq
/-- x op y, each an instance of the class at C or an int, not both ints -/
def rEither (C : Addr) (sp spR : Sp) (E : L2.St → XK) : R2S := fun σ x y H Q => rOwn C sp E σ x y H Q ∨ (rOwnI C sp E σ x y H Q ∨ rIntOwn C spR E σ x y H Q)
theorem op_either {op : Operator} {k2 : Nat} {ps2 : List Str} {spR : Sp} (S : Sm X.prog X.w X.K X.mg X.base C (PySem.dunder op.info.2) k ps sp) (hr : Room k X.A) (R : Sm X.prog X.w X.K X.mg X.base C (dunderR op.info.2) k2 ps2 spR) (hr2 : Room k2 X.A) (hx : Ps X E)
    (hc : PySem.W.selfFirst X.K C = true) (hi : RightT X.K C "int" op.info.2) (hil : IntL C op.info.2) (hsub : PySem.W.subIn X.K (.ref C) (.type "int") = some false) : OpS X (binaryOp op) (rEither C sp spR E) :=
  (op_own S hr hx hc).or ((op_ownI S hr hx hc hi).or (op_intOwn R hr2 hx hc S.lk hil hsub))
/-- x op y, x an instance of the class at C, y one or an int -/
def rEitherR (C : Addr) (sp : Sp) (E : L2.St → XK) : R2S := fun σ x y H Q => rOwn C sp E σ x y H Q ∨ rOwnI C sp E σ x y H Q
theorem op_eitherR {op : Operator} (S : Sm X.prog X.w X.K X.mg X.base C (PySem.dunder op.info.2) k ps sp) (hr : Room k X.A) (hx : Ps X E)
    (hc : PySem.W.selfFirst X.K C = true) (hi : RightT X.K C "int" op.info.2) : OpS X (binaryOp op) (rEitherR C sp E) := (op_own S hr hx hc).or (op_ownI S hr hx hc hi)
end
section
variable {nx bk ct : L2.St → Hp → Prop} {rt : VK} {σ : L2.St} {H : Hp} {te : TE} {Q : VK} {v x y : V} {E : L2.St → XK} {sp spR : Sp} {i j : Int} {n m : Nat} {C a b dx dy : Addr} {fs gs : List (Str × V)}
theorem v_e1 (ha : H a = some (.ins C dx fs)) (hb : H b = some (.ins C dy gs)) (q : sp [.ref a, .ref b] H Q (E σ)) : rEither C sp spR E σ (.ref a) (.ref b) H Q := .inl ⟨a, dx, fs, b, dy, gs, rfl, ha, rfl, hb, q⟩
theorem v_e2 (ha : H a = some (.ins C dx fs)) (q : sp [.ref a, .int i] H Q (E σ)) : rEither C sp spR E σ (.ref a) (.int i) H Q := .inr (.inl ⟨a, dx, fs, i, rfl, ha, rfl, q⟩)
theorem v_e3 (ha : H a = some (.ins C dx fs)) (q : spR [.ref a, .int i] H Q (E σ)) : rEither C sp spR E σ (.int i) (.ref a) H Q := .inr (.inr ⟨a, dx, fs, i, rfl, rfl, ha, q⟩)
theorem v_er1 (ha : H a = some (.ins C dx fs)) (hb : H b = some (.ins C dy gs)) (q : sp [.ref a, .ref b] H Q (E σ)) : rEitherR C sp E σ (.ref a) (.ref b) H Q := .inl ⟨a, dx, fs, b, dy, gs, rfl, ha, rfl, hb, q⟩
theorem v_er2 (ha : H a = some (.ins C dx fs)) (q : sp [.ref a, .int i] H Q (E σ)) : rEitherR C sp E σ (.ref a) (.int i) H Q := .inr ⟨a, dx, fs, i, rfl, ha, rfl, q⟩
theorem v_iR (ha : H a = some (.ins C dx fs)) (q : sp [.ref a, .int i] H Q (E σ)) : rIntOwn C sp E σ (.int i) (.ref a) H Q := ⟨a, dx, fs, i, rfl, rfl, ha, q⟩
instance i_asg2 : St1 (Run (tAsg2 te (gName n) (gName m)) nx rt bk ct σ H) (te σ H fun x H1 => Kont (fun σ' H' => Kont nx σ' m (some x) H') σ n (some x) H1) := ⟨fun h => h⟩
end
end GG

/-! GH: defs called within an except suite. -/
namespace GG
open PySem L2 PyProof.Rows
/-- a def of the top, as it is called within an except suite -/
structure FnS (P : Program) (w : World) (K : PySem.W.Frag) (mg : Str → Option Value) (base : Heap) (x : Str) (k : Nat) (ps : List Str) (sp : Sp) : Prop where
  ex : ∃ f fd, L2H.FnH P w K mg base (L2N.CX P w) k f fd ps sp ∧ mg x = some (.ref f) ∧ PySem.W.keepIn K (.ref f) = true ∧ L2.Binds K fd ps []
theorem _root_.L2H.RoomH.units {k : Nat} {A : Around} (r : L2H.RoomH k A) : A.units + 64 < cLine := by have := r.un; omega
theorem _root_.L2H.RoomH.units0 {k : Nat} {A : Around} (r : L2H.RoomH k A) : A.units < cLine := by have := r.un; omega
section
variable {X : Cx} {k : Nat} {ps : List Str} {sp : Sp} {E : L2.St → XK} {x : Str} {p pos : Pos} {e : Expr} {es : List Expr} {t : TA}
theorem pe_fnH (F : FnS X.prog X.w X.K X.mg X.base x k ps sp) (hr : L2H.RoomH k X.A) (hc : L2H.HotC X) (hx : Ps X E) (ha : PA X (e :: es) t) (hg : Gl X x := by rfl) (hdb : (x == ("__debug__" : Str)) = false := by decide)
    (he : starEach (e :: es) X.env = (false, eval e X.env) :: starEach es X.env := by rfl) (hpl : (backTo pos (starEach es X.env)).any (·.1) = false := by rfl) :
    PE X (.Call (.Name x p) (e :: es) [] pos) (tCallSD sp [] E t) := by
  obtain ⟨f, fd, F, hm, hk, hb⟩ := F.ex
  refine ⟨fun pins s σ H Q I h => ?_⟩
  refine wpAny_Call_Name_kw (ld_glob I hg hm ?_ hdb)
  refine PySem.W.callWith_K (h₀ := X.base) I.ok.mod.kin hk (thn (ha.run pos pins s σ H _ I h) fun us s1 ⟨vs, H1, I1, r, q⟩ => ⟨I1.kIn, ?_⟩) he hpl
  have q : sp (vs ++ []) H1 Q (E σ) := q
  rw [List.append_nil] at q
  exact L2H.run_fnH (E := E) F hr hc hb (hx σ) I1 r q
/-- the suite bears the exception that is handled -/
theorem hot_suite {a : Addr} {oe : Obj} {cls : Value} {d : Option Addr} {pn : List (Addr × Obj)} (hz : L2N.Zn cls d oe) (hf : ∃ vs, oe.data = .fields vs) : L2H.HotC (X.suite a ((a, oe) :: pn)) := by
  obtain ⟨vs, hd⟩ := hf
  exact ⟨(a, oe), ⟨rfl, vs, hd, hz.2.2 vs hd⟩, List.Mem.head _⟩
theorem room_suite {a : Addr} {j : Nat} {pn : List (Addr × Obj)} (hr : Room k X.A) (h : j ≤ k) : L2H.RoomH j (X.suite a pn).A := L2H.RoomH.mono (k := k) ⟨hr.dp, hr.un⟩ h
theorem hot_def {CX : CXT} {P : Program} {w : World} {K : PySem.W.Frag} {mg : Str → Option Value} {base : Heap} {N : List Str} {qual : Str} {scope : Scope} {f : Addr} {cd : Value} {A : Around} {outer : List Env} {s : Shared} {H : Hp} {E : XK} {p : Addr × Obj} (h : L2H.Hot1 A p) :
    L2H.HotC (L2H.cxH CX P w K mg base N qual scope f cd A outer s H E p) := ⟨p, ⟨h.1, h.2⟩, List.Mem.head _⟩
end
/-! ### a cut behind a statement -/
theorem run_cut {t : TS} {nx bk ct : L2.St → Hp → Prop} {rt : VK} {σ : L2.St} {H : Hp} (P : L2.St → Hp → Prop) (h1 : ∀ nx' : L2.St → Hp → Prop, (∀ σ' H', P σ' H' → nx' σ' H') → Run t nx' rt bk ct σ H) (h2 : ∀ σ' H', P σ' H' → nx σ' H') : Run t nx rt bk ct σ H := h1 nx h2
theorem is_if {tt : TT} {t u : TS} {nx bk ct : L2.St → Hp → Prop} {rt : VK} {σ : L2.St} {H : Hp} (h : Run (tIfS tt t u) nx rt bk ct σ H) : Run (tIfS tt t u) nx rt bk ct σ H := h
/-! ### methods -/
section
variable {σ : L2.St} {H : Hp} {ta : TE} {as : TA} {Q : VK} {E : L2.St → XK} {sp : Sp} {C a dx : Addr} {m : Str} {dvs : List V} {fs : List (Str × V)} {v : V}
def SpM (sp : Sp) (dvs : List V) (a : Addr) (vs : List V) (H : Hp) (Q : VK) (E : XK) : Prop := sp (.ref a :: (vs ++ dvs)) H Q E
def rMt (C : Addr) (m : Str) (sp : Sp) (dvs : List V) (E : L2.St → XK) (as : TA) (σ : L2.St) (x : V) (H : Hp) (Q : VK) : Prop := ∃ a dx fs, x = .ref a ∧ H a = some (.ins C dx fs) ∧ fs.lookup m = none ∧ as σ H fun vs H2 => SpM sp dvs a vs H2 Q (E σ)
instance i_mt : St1 (tMtS C m sp dvs E ta as σ H Q) (ta σ H fun x H1 => rMt C m sp dvs E as σ x H1 Q) := ⟨fun h => h⟩
theorem v_mt (ha : H a = some (.ins C dx fs)) (hl : fs.lookup m = none) (q : as σ H fun vs H2 => SpM sp dvs a vs H2 Q (E σ)) : rMt C m sp dvs E as σ (.ref a) H Q := ⟨a, dx, fs, rfl, ha, hl, q⟩
instance i_spM {vs ws : List V} {E : XK} [x : AppV vs dvs ws] : St1 (SpM sp dvs a vs H Q E) (sp (.ref a :: ws) H Q E) := ⟨fun h => by unfold SpM; rw [x.h]; exact h⟩
end
end GG

namespace GM
theorem fmod_eq (x y : Int) : x.fmod y = x - y * x.fdiv y := by
  have := Int.mul_fdiv_add_fmod x y
  omega
theorem gcd_fmod (x y : Int) : Int.gcd y (x.fmod y) = Int.gcd x y := by
  rw [fmod_eq, Int.gcd_comm x y]
  exact Int.gcd_sub_mul_left_right y x (x.fdiv y)
theorem fmod_neg (x y : Int) : x.fmod (-y) = -((-x).fmod y) := by
  have h := Int.neg_fmod_neg (a := -x) (b := y)
  rw [Int.neg_neg] at h
  exact h
theorem fmod_lt {x y : Int} (h : y ≠ 0) : (x.fmod y).natAbs < y.natAbs := by
  rcases Int.lt_or_lt_of_ne h with h | h
  · have e := fmod_neg x (-y)
    rw [Int.neg_neg] at e
    have h1 := Int.fmod_nonneg_of_pos (-x) (b := -y) (by omega)
    have h2 := Int.fmod_lt_of_pos (-x) (b := -y) (by omega)
    omega
  · have h1 := Int.fmod_nonneg_of_pos x h
    have h2 := Int.fmod_lt_of_pos x h
    omega
/-- in lowest terms -/
theorem share_math {t b c : Int} (hb : b ≠ 0) (hc : (b < 0 ∧ c = -(Int.gcd t b : Int)) ∨ (0 < b ∧ c = (Int.gcd t b : Int))) :
    c ≠ 0 ∧ c.natAbs ≤ b.natAbs ∧ 0 < b.fdiv c ∧ Int.gcd (t.fdiv c) (b.fdiv c) = 1 ∧ t.fdiv c * b = t * b.fdiv c ∧ (t.fdiv c).natAbs ≤ t.natAbs ∧ (b.fdiv c).natAbs ≤ b.natAbs := by
  have hg : 0 < Int.gcd t b := Int.gcd_pos_of_ne_zero_right t hb
  have hct : c ∣ t := by
    rcases hc with ⟨_, rfl⟩ | ⟨_, rfl⟩
    · exact Int.neg_dvd.mpr (Int.gcd_dvd_left t b)
    · exact Int.gcd_dvd_left t b
  have hcb : c ∣ b := by
    rcases hc with ⟨_, rfl⟩ | ⟨_, rfl⟩
    · exact Int.neg_dvd.mpr (Int.gcd_dvd_right t b)
    · exact Int.gcd_dvd_right t b
  have hca : c.natAbs = Int.gcd t b := by
    rcases hc with ⟨_, rfl⟩ | ⟨_, rfl⟩ <;> simp
  have hc0 : c ≠ 0 := by
    intro z
    rw [z] at hca
    simp at hca
    omega
  obtain ⟨T, rfl⟩ := hct
  obtain ⟨B, rfl⟩ := hcb
  have e1 : (c * T).fdiv c = T := Int.mul_fdiv_cancel_left T hc0
  have e2 : (c * B).fdiv c = B := Int.mul_fdiv_cancel_left B hc0
  rw [e1, e2]
  have hB0 : B ≠ 0 := fun z => hb (by rw [z, Int.mul_zero])
  have h1 : 1 ≤ c.natAbs := by omega
  refine ⟨hc0, ?_, ?_, ?_, ?_, ?_, ?_⟩
  · rw [Int.natAbs_mul]
    exact Nat.le_mul_of_pos_right _ (by omega)
  · rcases hc with ⟨h, e⟩ | ⟨h, e⟩
    · have hcn : c < 0 := by omega
      exact Int.pos_of_mul_neg_right h (by omega) 
    · have hcp : 0 < c := by omega
      exact Int.pos_of_mul_pos_left (by rw [Int.mul_comm]; exact h) hcp
  · rw [Int.gcd_mul_left] at hca
    have : c.natAbs * Int.gcd T B = c.natAbs * 1 := by omega
    exact Nat.eq_of_mul_eq_mul_left h1 this
  · rw [Int.mul_comm c T, Int.mul_assoc, Int.mul_left_comm, ← Int.mul_assoc, Int.mul_comm c T]
  · rw [Int.natAbs_mul]
    exact Nat.le_mul_of_pos_left _ h1
  · rw [Int.natAbs_mul]
    exact Nat.le_mul_of_pos_left _ h1
theorem dvd_cop {a b c : Int} (h : a ∣ b * c) (g : Int.gcd a b = 1) : a ∣ c := by
  have := Int.dvd_gcd_mul_iff_dvd_mul.mpr h
  rw [g] at this
  simpa using this
/-- two fractions in lowest terms are equal only if they are the same -/
theorem share_eq {T B T' B' : Int} (h1 : Int.gcd T B = 1) (h2 : Int.gcd T' B' = 1) (hB : 0 < B) (hB' : 0 < B') (h : T * B' = T' * B) : T = T' ∧ B = B' := by
  have d1 : B ∣ B' := by
    have : B ∣ T * B' := ⟨T', by rw [h, Int.mul_comm]⟩
    exact dvd_cop this (by rw [Int.gcd_comm]; exact h1)
  have d2 : B' ∣ B := by
    have : B' ∣ T' * B := ⟨T, by rw [← h, Int.mul_comm]⟩
    exact dvd_cop this (by rw [Int.gcd_comm]; exact h2)
  have e : B = B' := Int.dvd_antisymm (by omega) (by omega) d1 d2
  subst e
  exact ⟨Int.eq_of_mul_eq_mul_right (by omega) h, rfl⟩
/-- a step of Euclid's: the product falls to a half -/
theorem euclid_half {a b : Int} (hb : 0 < b) (h : b ≤ a) : b * (a % b) * 2 ≤ a * b := by
  have h1 := Int.emod_nonneg a (b := b) (by omega)
  have h2 := Int.emod_lt_of_pos a hb
  have h3 := Int.mul_ediv_add_emod a b
  have h4 : 1 ≤ a / b := by
    exact Int.le_ediv_of_mul_le hb (by omega)
  have h5 : b ≤ b * (a / b) := by
    have := Int.mul_le_mul_of_nonneg_left h4 (show 0 ≤ b by omega)
    omega
  have h6 : a % b * 2 ≤ a := by omega
  have := Int.mul_le_mul_of_nonneg_left h6 (show 0 ≤ b by omega)
  rw [Int.mul_assoc, Int.mul_comm a b]
  exact this
theorem gcd_emod (a b : Int) : Int.gcd b (a % b) = Int.gcd a b := by
  rw [Int.gcd_comm a b]
  have e : a % b = a - b * (a / b) := by
    have := Int.mul_ediv_add_emod a b
    omega
  rw [e]
  exact Int.gcd_sub_mul_left_right b a (a / b)
theorem pow_lt_of {x : Int} {n m : Nat} (hx : 1 ≤ x) (h : x * 2 ^ n < 2 ^ m) : n < m := by
  rcases Nat.lt_or_ge n m with h' | h'
  · exact h'
  · exfalso
    have h1 : (2 : Int) ^ m ≤ 2 ^ n := by
      have := Nat.pow_le_pow_right (show 0 < 2 by decide) h'
      exact_mod_cast this
    have h2 : (0 : Int) < 2 ^ n := Int.pow_pos (by decide)
    have h3 := Int.mul_le_mul_of_nonneg_right hx (Int.le_of_lt h2)
    omega
theorem abs_lt_mul {x y : Int} {m n : Int} (hx : -m < x ∧ x < m) (hy : -n < y ∧ y < n) : -(m * n) < x * y ∧ x * y < m * n := by
  have h1 : x.natAbs < m.natAbs := by omega
  have h2 : y.natAbs < n.natAbs := by omega
  have h3 : (x * y).natAbs < (m * n).natAbs := by
    rw [Int.natAbs_mul, Int.natAbs_mul]
    exact Nat.mul_lt_mul'' h1 h2
  have h4 : 0 ≤ m * n := Int.mul_nonneg (by omega) (by omega)
  omega
/-- the sign -/
theorem sign_of {T B t b : Int} (hB : 0 < B) (h : T * b = t * B) (hb : b ≠ 0) : Int.sign T = Int.sign (t * b) := by
  have e : Int.sign T * Int.sign b = Int.sign t := by
    have := congrArg Int.sign h
    rw [Int.sign_mul, Int.sign_mul, Int.sign_eq_one_of_pos hB, Int.mul_one] at this
    exact this
  rw [Int.sign_mul, ← e, Int.mul_assoc]
  have : Int.sign b * Int.sign b = 1 := by
    rcases Int.lt_or_lt_of_ne hb with h | h
    · rw [Int.sign_eq_neg_one_of_neg h]; rfl
    · rw [Int.sign_eq_one_of_pos h]; rfl
  rw [this, Int.mul_one]
theorem cross {A B1 X B3 b y : Int} (h0 : B1 ≠ 0) (h1 : A * B1 = X * B3) (h2 : X * b = y * B1) : A * b = y * B3 := by
  have h : (A * b) * B1 = (y * B3) * B1 := by
    rw [Int.mul_right_comm, h1, Int.mul_right_comm, h2, Int.mul_right_comm]
  exact Int.eq_of_mul_eq_mul_right h0 h
theorem abs_he {T B t b : Int} (hB : 0 < B) (h : T * b = t * B) : (T.natAbs : Int) * (b.natAbs : Int) = (t.natAbs : Int) * B := by
  have e := congrArg Int.natAbs h
  rw [Int.natAbs_mul, Int.natAbs_mul] at e
  have e2 : ((T.natAbs * b.natAbs : Nat) : Int) = ((t.natAbs * B.natAbs : Nat) : Int) := by rw [e]
  rw [Int.natCast_mul, Int.natCast_mul] at e2
  rw [e2, show ((B.natAbs : Nat) : Int) = B by omega]
/-- a twin with both signs changed -/
theorem twin {T B t b T' B' : Int} (h0 : b ≠ 0) (h1 : T * b = t * B) (h2 : T' * -b = -t * B') : T * B' = T' * B := by
  have h : (T * B') * b = (T' * B) * b := by
    rw [Int.mul_right_comm, h1, Int.mul_right_comm T' B b]
    have : T' * b = t * B' := by
      rw [Int.mul_neg, Int.neg_mul] at h2
      omega
    rw [this, Int.mul_right_comm]
  exact Int.eq_of_mul_eq_mul_right h0 h
theorem same_iff {T B T' B' t b t' b' : Int} (c1 : Int.gcd T B = 1) (c2 : Int.gcd T' B' = 1) (p1 : 0 < B) (p2 : 0 < B') (h0 : b ≠ 0) (h0' : b' ≠ 0) (h1 : T * b = t * B) (h2 : T' * b' = t' * B') : (t * b' = t' * b) ↔ (T = T' ∧ B = B') := by
  constructor
  · intro h
    refine share_eq c1 c2 p1 p2 ?_
    have e : (T * B') * (b * b') = (T' * B) * (b * b') := by
      have a1 : (T * B') * (b * b') = (T * b) * (B' * b') := by
        rw [Int.mul_assoc, Int.mul_assoc]
        congr 1
        rw [← Int.mul_assoc, ← Int.mul_assoc, Int.mul_comm B' b]
      have a2 : (T' * B) * (b * b') = (T' * b') * (B * b) := by
        rw [Int.mul_assoc, Int.mul_assoc]
        congr 1
        rw [Int.mul_comm b b', ← Int.mul_assoc, ← Int.mul_assoc, Int.mul_comm B b']
      rw [a1, a2, h1, h2]
      have a3 : t * B * (B' * b') = (t * b') * (B * B') := by
        rw [Int.mul_assoc, Int.mul_assoc]
        congr 1
        rw [← Int.mul_assoc, Int.mul_comm (B * B') b']
      have a4 : t' * B' * (B * b) = (t' * b) * (B * B') := by
        rw [Int.mul_assoc, Int.mul_assoc]
        congr 1
        rw [← Int.mul_assoc, Int.mul_comm (B' * B) b, Int.mul_comm B' B]
      rw [a3, a4, h]
    exact Int.eq_of_mul_eq_mul_right (Int.mul_ne_zero h0 h0') e
  · rintro ⟨rfl, rfl⟩
    have e : (t * b') * B = (t' * b) * B := by
      rw [Int.mul_right_comm, ← h1, Int.mul_right_comm t' b B, ← h2, Int.mul_right_comm]
    exact Int.eq_of_mul_eq_mul_right (by omega) e
theorem sum_he {T1 B1 T2 B2 a0 a1 b0 b1 : Int} (h1 : T1 * a1 = a0 * B1) (h2 : T2 * b1 = b0 * B2) : (T1 * B2 + T2 * B1) * (a1 * b1) = (a0 * b1 + b0 * a1) * (B1 * B2) := by grind
theorem dif_he {T1 B1 T2 B2 a0 a1 b0 b1 : Int} (h1 : T1 * a1 = a0 * B1) (h2 : T2 * b1 = b0 * B2) : (T1 * B2 - T2 * B1) * (a1 * b1) = (a0 * b1 - b0 * a1) * (B1 * B2) := by grind
theorem mul_he {T1 B1 T2 B2 a0 a1 b0 b1 : Int} (h1 : T1 * a1 = a0 * B1) (h2 : T2 * b1 = b0 * B2) : T1 * T2 * (a1 * b1) = a0 * b0 * (B1 * B2) := by grind
/-- a number of at most k bits -/
def Sz (k : Nat) (x : Int) : Prop := x.natAbs < 2 ^ k
theorem Sz.mono {a b : Nat} {x : Int} (h : Sz a x) (hk : a ≤ b) : Sz b x := Nat.lt_of_lt_of_le h (Nat.pow_le_pow_right (by decide) hk)
theorem Sz.le {k : Nat} {x y : Int} (hx : Sz k x) (h : y.natAbs ≤ x.natAbs) : Sz k y := Nat.lt_of_le_of_lt h hx
theorem Sz.neg {k : Nat} {x : Int} (hx : Sz k x) : Sz k (-x) := by unfold Sz at *; omega
theorem Sz.mul {a b : Nat} {x y : Int} (hx : Sz a x) (hy : Sz b y) : Sz (a + b) (x * y) := by
  unfold Sz at *
  rw [Int.natAbs_mul, Nat.pow_add]
  exact Nat.mul_lt_mul'' hx hy
theorem Sz.add {a : Nat} {x y : Int} (hx : Sz a x) (hy : Sz a y) : Sz (a + 1) (x + y) := by
  unfold Sz at *
  rw [Nat.pow_succ]
  omega
theorem Sz.sub {a : Nat} {x y : Int} (hx : Sz a x) (hy : Sz a y) : Sz (a + 1) (x - y) := by
  unfold Sz at *
  rw [Nat.pow_succ]
  omega
theorem Sz.one {k : Nat} (h : 1 ≤ k) : Sz k 1 := Sz.mono (a := 1) (by unfold Sz; decide) h
theorem Sz.pow {k : Nat} {x : Int} (h1 : 1 ≤ k) (hx : Sz k x) (n : Nat) : Sz (k * n + 1) (x ^ n) := by
  induction n with
  | zero => rw [Int.pow_zero]; exact Sz.one (by omega)
  | succ n ih =>
    rw [Int.pow_succ]
    exact (ih.mul hx).mono (by rw [Nat.mul_succ]; omega)
theorem pow_cop {T B : Int} (h : Int.gcd T B = 1) (n : Nat) : Int.gcd (T ^ n) (B ^ n) = 1 := by rw [Int.pow_gcd_pow, h, Nat.one_pow]
theorem fdiv_abs {x y : Int} (hy : y ≠ 0) : (x.fdiv y).natAbs ≤ x.natAbs := by
  have key : ∀ a b : Int, 0 < b → (a.fdiv b).natAbs ≤ a.natAbs := by
    intro a b hb
    rw [Int.fdiv_eq_ediv_of_nonneg a (by omega)]
    exact Int.natAbs_ediv_le_natAbs a b
  rcases Int.lt_or_lt_of_ne hy with h | h
  · have e := key (-x) (-y) (by omega)
    rw [Int.neg_fdiv_neg] at e
    omega
  · exact key x y h
theorem low_of {T B X Y : Int} (hc : Int.gcd T B = 1) (hB : 0 < B) (hY : Y ≠ 0) (h : T * Y = X * B) : T.natAbs ≤ X.natAbs ∧ B.natAbs ≤ Y.natAbs := by
  have d1 : B ∣ Y := dvd_cop (b := T) ⟨X, by rw [h, Int.mul_comm]⟩ (by rw [Int.gcd_comm]; exact hc)
  have d2 : T ∣ X := dvd_cop (b := B) ⟨Y, by rw [h, Int.mul_comm]⟩ hc
  constructor
  · by_cases hX : X = 0
    · subst hX
      rw [Int.zero_mul] at h
      rcases Int.mul_eq_zero.mp h with h | h
      · rw [h]; decide
      · exact absurd h hY
    · exact Nat.le_of_dvd (by omega) (Int.natAbs_dvd_natAbs.mpr d2)
  · exact Nat.le_of_dvd (by omega) (Int.natAbs_dvd_natAbs.mpr d1)
theorem fmod_mul (x : Int) {y : Int} (hy : y ≠ 0) : 0 ≤ x.fmod y * y := by
  rcases Int.lt_or_lt_of_ne hy with h | h
  · have e := fmod_neg x (-y)
    rw [Int.neg_neg] at e
    have h1 := Int.fmod_nonneg_of_pos (-x) (b := -y) (by omega)
    have h2 : 0 ≤ (-(x.fmod y)) * (-y) := Int.mul_nonneg (by omega) (by omega)
    rw [Int.neg_mul_neg] at h2
    exact h2
  · exact Int.mul_nonneg (Int.fmod_nonneg_of_pos x h) (by omega)
theorem floor_same {x y X Y : Int} (hy : y ≠ 0) (hY : 0 < Y) (h : x * Y = X * y) : x.fdiv y * Y ≤ X ∧ X < (x.fdiv y + 1) * Y := by
  have e1 := Int.mul_fdiv_add_fmod x y
  have e2 : y * (X - x.fdiv y * Y) = x.fmod y * Y := by grind
  have e3 : (x.fdiv y + 1) * Y = x.fdiv y * Y + Y := by grind
  have hl := fmod_lt (x := x) hy
  have hs := fmod_mul x hy
  generalize x.fmod y = r at *
  generalize hD : X - x.fdiv y * Y = D at *
  rw [e3]
  rcases Int.lt_or_lt_of_ne hy with g | g
  · have hr : r ≤ 0 := by
      rcases Int.lt_or_le 0 r with q | q
      · have := Int.mul_neg_of_pos_of_neg q g; omega
      · exact q
    have hrY : r * Y ≤ 0 := Int.mul_nonpos_of_nonpos_of_nonneg hr (by omega)
    have d0 : 0 ≤ D := by
      rcases Int.lt_or_le D 0 with q | q
      · have := Int.mul_pos_of_neg_of_neg g q; omega
      · exact q
    have d1 : D < Y := by
      rcases Int.lt_or_le D Y with q | q
      · exact q
      · have a1 := Int.mul_le_mul_of_nonpos_left (show y ≤ 0 by omega) q
        have a2 := Int.mul_lt_mul_of_pos_right (show y < r by omega) hY
        omega
    omega
  · have hr : 0 ≤ r := by
      rcases Int.lt_or_le r 0 with q | q
      · have := Int.mul_neg_of_neg_of_pos q g; omega
      · exact q
    have hrY : 0 ≤ r * Y := Int.mul_nonneg hr (by omega)
    have d0 : 0 ≤ D := by
      rcases Int.lt_or_le D 0 with q | q
      · have := Int.mul_neg_of_pos_of_neg g q; omega
      · exact q
    have d1 : D < Y := by
      rcases Int.lt_or_le D Y with q | q
      · exact q
      · have a1 := Int.mul_le_mul_of_nonneg_left q (show 0 ≤ y by omega)
        have a2 := Int.mul_lt_mul_of_pos_right (show r < y by omega) hY
        omega
    omega
theorem mod_sign {T B X b b' t' b0 b1 : Int} (hb : 0 < b) (hb' : 0 < b') (hB : 0 < B) (h1 : T * (b * b') = X * B) (h2 : t' * b1 = b0 * b') (hX : 0 ≤ X * (b * t')) : 0 ≤ T * b0 * b1 := by
  have e : T * b0 * b1 * (b' * (b * b') * b) = (X * (b * t')) * B * (b1 * b1) := by grind
  have p : 0 < b' * (b * b') * b := Int.mul_pos (Int.mul_pos hb' (Int.mul_pos hb hb')) hb
  have q : 0 ≤ (X * (b * t')) * B * (b1 * b1) := Int.mul_nonneg (Int.mul_nonneg hX (by omega)) (by
    rcases Int.lt_or_le b1 0 with z | z
    · exact Int.le_of_lt (Int.mul_pos_of_neg_of_neg z z)
    · exact Int.mul_nonneg z z)
  rcases Int.lt_or_le (T * b0 * b1) 0 with z | z
  · have := Int.mul_neg_of_neg_of_pos z p; omega
  · exact z
theorem mod_abs {T B X b b' t' b0 b1 : Int} (hb : 0 < b) (hb' : 0 < b') (hB : 0 < B) (h0 : b1 ≠ 0) (h1 : T * (b * b') = X * B) (h2 : t' * b1 = b0 * b') (hX : X.natAbs < (b * t').natAbs) : (T * b1).natAbs < (b0 * B).natAbs := by
  have e1 := congrArg Int.natAbs h1
  have e2 := congrArg Int.natAbs h2
  rw [Int.natAbs_mul, Int.natAbs_mul, Int.natAbs_mul] at e1
  rw [Int.natAbs_mul, Int.natAbs_mul] at e2
  rw [Int.natAbs_mul] at hX
  rw [Int.natAbs_mul, Int.natAbs_mul]
  have pb : 0 < b.natAbs := by omega
  have pb' : 0 < b'.natAbs := by omega
  have pB : 0 < B.natAbs := by omega
  have p1 : 0 < b1.natAbs := by omega
  generalize b.natAbs = b at *
  generalize b'.natAbs = c at *
  generalize B.natAbs = B at *
  generalize b1.natAbs = p at *
  generalize T.natAbs = T at *
  generalize X.natAbs = X at *
  generalize t'.natAbs = t at *
  generalize b0.natAbs = o at *
  have h3 : X * (B * p * c) < b * t * (B * p * c) := Nat.mul_lt_mul_of_pos_right hX (Nat.mul_pos (Nat.mul_pos pB p1) pb')
  have e3 : T * p * (b * c * c) = X * (B * p * c) := by grind
  have e4 : o * B * (b * c * c) = b * t * (B * p * c) := by grind
  exact Nat.lt_of_mul_lt_mul_right (a := b * c * c) (by omega)
theorem mod_he {t b t' b' q T2 B2 T B : Int} (hB2 : B2 ≠ 0) (hb : b ≠ 0) (h1 : T2 * (b' * 1) = t' * q * B2) (h2 : T * (b * B2) = (t * B2 - T2 * b) * B) : T * (b * b') = (t * b' - b * t' * q) * B := by
  refine cross (B1 := b * B2) (Int.mul_ne_zero hb hB2) h2 ?_
  grind
theorem rest_he {t b t' b' q a0 a1 b0 b1 : Int} (h1 : t * a1 = a0 * b) (h2 : t' * b1 = b0 * b') : (t * b' - b * t' * q) * (a1 * b1) = (a0 * b1 - q * b0 * a1) * (b * b') := by grind
theorem over_he {t b t' b' a0 a1 b0 b1 : Int} (h1 : t * a1 = a0 * b) (h2 : t' * b1 = b0 * b') : t * b' * (a1 * b0) = a0 * b1 * (b * t') := by grind
end GM

namespace K02
open PySem L2 GG PyProof.Rows
def top (i : Nat) : Stmt := PySem.Challenge.pw_gangbooks_k02_share_floor_rest.main.body.getD i (.Pass ⟨0, 0, 0, 0⟩)
abbrev s__law_draw : Stmt := (top 13)
abbrev s__law_pool : Stmt := (top 12)
abbrev s_gcd : Stmt := (top 8)
abbrev s_Share___init__ : Stmt := (inClass (top 7) 0)
abbrev s_as_share : Stmt := (top 9)
abbrev s_Share___sub__ : Stmt := (inClass (top 7) 7)
abbrev s_Share___mul__ : Stmt := (inClass (top 7) 9)
abbrev s_Share___floordiv__ : Stmt := (inClass (top 7) 11)
abbrev s_Share_over : Stmt := (inClass (top 7) 4)
abbrev s_Share___mod__ : Stmt := (inClass (top 7) 12)
abbrev s__law_number : Stmt := (top 14)
abbrev s__law_signed : Stmt := (top 15)
abbrev s__law_pair : Stmt := (top 16)
abbrev s__law_whole : Stmt := (top 17)
abbrev s__law_coprime : Stmt := (top 18)
abbrev s__law_is : Stmt := (top 19)
abbrev s__law_quotients : Stmt := (top 20)
abbrev s__law_refused : Stmt := (top 21)
abbrev s_law : Stmt := (top 22)
theorem sc__law_draw : FnScope ["_law_pool_here", "_law_many", "_law_first", "_law_second", "_law_found"] ["_law_pool_here", "_law_many"] (defScope s__law_draw) := ⟨rfl, rfl, rfl, by decide +kernel, rfl, by decide +kernel, by decide +kernel⟩
theorem sc__law_pool : FnScope ["_law_script", "_law_pool_here", "_law_cell"] ["_law_script"] (defScope s__law_pool) := ⟨rfl, rfl, rfl, by decide +kernel, rfl, by decide +kernel, by decide +kernel⟩
theorem sc_gcd : FnScope ["one", "two"] ["one", "two"] (defScope s_gcd) := ⟨rfl, rfl, rfl, by decide +kernel, rfl, by decide +kernel, by decide +kernel⟩
theorem sc_Share___init__ : FnScope ["self", "top", "bottom", "common"] ["self", "top", "bottom"] (defScope s_Share___init__) := ⟨rfl, rfl, rfl, by decide +kernel, rfl, by decide +kernel, by decide +kernel⟩
theorem sc_as_share : FnScope ["value"] ["value"] (defScope s_as_share) := ⟨rfl, rfl, rfl, by decide +kernel, rfl, by decide +kernel, by decide +kernel⟩
theorem sc_Share___sub__ : FnScope ["self", "other", "right", "top"] ["self", "other"] (defScope s_Share___sub__) := ⟨rfl, rfl, rfl, by decide +kernel, rfl, by decide +kernel, by decide +kernel⟩
theorem sc_Share___mul__ : FnScope ["self", "other", "right"] ["self", "other"] (defScope s_Share___mul__) := ⟨rfl, rfl, rfl, by decide +kernel, rfl, by decide +kernel, by decide +kernel⟩
theorem sc_Share___floordiv__ : FnScope ["self", "other", "right"] ["self", "other"] (defScope s_Share___floordiv__) := ⟨rfl, rfl, rfl, by decide +kernel, rfl, by decide +kernel, by decide +kernel⟩
theorem sc_Share_over : FnScope ["self", "other", "right"] ["self", "other"] (defScope s_Share_over) := ⟨rfl, rfl, rfl, by decide +kernel, rfl, by decide +kernel, by decide +kernel⟩
theorem sc_Share___mod__ : FnScope ["self", "other", "right"] ["self", "other"] (defScope s_Share___mod__) := ⟨rfl, rfl, rfl, by decide +kernel, rfl, by decide +kernel, by decide +kernel⟩
theorem sc__law_number : FnScope ["_law_pool_here", "_law_groups", "_law_kind", "_law_count", "_law_number_here", "_law_k", "_law_part"] ["_law_pool_here", "_law_groups"] (defScope s__law_number) := ⟨rfl, rfl, rfl, by decide +kernel, rfl, by decide +kernel, by decide +kernel⟩
theorem sc__law_signed : FnScope ["_law_pool_here", "_law_groups", "_law_number_here"] ["_law_pool_here", "_law_groups"] (defScope s__law_signed) := ⟨rfl, rfl, rfl, by decide +kernel, rfl, by decide +kernel, by decide +kernel⟩
theorem sc__law_pair : FnScope ["_law_pool_here", "_law_groups", "_law_top", "_law_bottom"] ["_law_pool_here", "_law_groups"] (defScope s__law_pair) := ⟨rfl, rfl, rfl, by decide +kernel, rfl, by decide +kernel, by decide +kernel⟩
theorem sc__law_whole : FnScope ["_law_value"] ["_law_value"] (defScope s__law_whole) := ⟨rfl, rfl, rfl, by decide +kernel, rfl, by decide +kernel, by decide +kernel⟩
theorem sc__law_coprime : FnScope ["_law_one", "_law_other", "_law_k", "_law_rest"] ["_law_one", "_law_other"] (defScope s__law_coprime) := ⟨rfl, rfl, rfl, by decide +kernel, rfl, by decide +kernel, by decide +kernel⟩
theorem sc__law_is : FnScope ["_law_share", "_law_top", "_law_bottom"] ["_law_share", "_law_top", "_law_bottom"] (defScope s__law_is) := ⟨rfl, rfl, rfl, by decide +kernel, rfl, by decide +kernel, by decide +kernel⟩
theorem sc__law_quotients : FnScope ["_law_one", "_law_a", "_law_other", "_law_b", "_law_top", "_law_bottom", "_law_floor", "_law_rest"] ["_law_one", "_law_a", "_law_other", "_law_b"] (defScope s__law_quotients) := ⟨rfl, rfl, rfl, by decide +kernel, rfl, by decide +kernel, by decide +kernel⟩
theorem sc__law_refused : FnScope ["_law_one", "_law_a", "_law_nothing", "_law_way", "e", "_law_found"] ["_law_one", "_law_a", "_law_nothing", "_law_way"] (defScope s__law_refused) := ⟨rfl, rfl, rfl, by decide +kernel, rfl, by decide +kernel, by decide +kernel⟩
theorem sc_law : FnScope ["_law_script", "_law_pool_here", "_law_a", "_law_b", "_law_number_here", "_law_one", "_law_other", "_law_nothing", "_law_turn", "_law_way"] ["_law_script"] (defScope s_law) := ⟨rfl, rfl, rfl, by decide +kernel, rfl, by decide +kernel, by decide +kernel⟩
structure Ad where
  K : PySem.W.Frag
  GangError : Addr
  BadShare : Addr
  BadAmounts : Addr
  Unknown : Addr
  Share : Addr
  fE : Addr
structure Txt (K : PySem.W.Frag) (mg : Str → Option Value) (c : Ad) : Prop where
  kk : c.K = K
  b_ValueError : mg "ValueError" = none
  b_len : mg "len" = none
  b_int : mg "int" = none
  b_abs : mg "abs" = none
  b_isinstance : mg "isinstance" = none
  b_bool : mg "bool" = none
  b_range : mg "range" = none
  g_GangError : mg "GangError" = some (.ref c.GangError)
  g_BadShare : mg "BadShare" = some (.ref c.BadShare)
  g_BadAmounts : mg "BadAmounts" = some (.ref c.BadAmounts)
  g_Unknown : mg "Unknown" = some (.ref c.Unknown)
  g_Share : mg "Share" = some (.ref c.Share)
  o_Share : OwnC K mg "Share" c.Share
  sf_Share : PySem.W.selfFirst K c.Share = true
  na_Share_top : NoAttr K c.Share "top"
  na_Share_bottom : NoAttr K c.Share "bottom"
  ni_Share : PySem.W.notFirst K c.Share (.type "int") = true
  nt_Share : PySem.W.notFirst K c.Share (.type "tuple") = true
  si_Share : PySem.W.subIn K (.ref c.Share) (.type "int") = some false
  ri_Share___mul__ : RightT K c.Share "int" "mul"
  ri_Share___floordiv__ : RightT K c.Share "int" "floordiv"
  ri_Share___mod__ : RightT K c.Share "int" "mod"
  e_BadShare : PySem.GErr.ErrTxt K mg "BadShare" c.BadShare c.fE
  x_BadShare_GangError : PySem.W.exmOne K (.ref c.BadShare) (.ref c.GangError) = some true
  k_BadShare_BadShare : PySem.W.kitOne K (.ref c.BadShare) (.ref c.BadShare) = some true
  k_BadShare_ValueError : PySem.W.kitOne K (.ref c.BadShare) (.type "ValueError") = some true
  k_BadShare_BadAmounts : PySem.W.kitOne K (.ref c.BadShare) (.ref c.BadAmounts) = some false
  k_BadShare_Unknown : PySem.W.kitOne K (.ref c.BadShare) (.ref c.Unknown) = some false
  ki_int : PySem.W.kitOne K (.type "int") (.ref c.Share) = some false
  ki_tup : PySem.W.kitOne K (.type "tuple") (.ref c.Share) = some false
def spLaw (K : PySem.W.Frag) : Sp := fun vs H Q _ => vs.length = 1 ∧ ∃ (a : Addr) (ns : List Int), vs = [.ref a] ∧ SqL K H a (ns.map V.int) ∧ ns.length ≤ 63 ∧ (∀ n ∈ ns, Builtin.Int.intBits n ≤ 1048576) ∧ ∀ H', Q (.bl true) H'
/-- the pool of a law: three small numbers, a count, great numbers -/
def Pool (H : Hp) (p : Addr) : Prop := ∃ a b c n : Int, ∃ hs : List Int, H p = some (.lst (.int a :: .int b :: .int c :: .int n :: hs.map V.int)) ∧ (0 ≤ a ∧ a < 101) ∧ (0 ≤ b ∧ b < 103) ∧ (0 ≤ c ∧ c < 1009) ∧ hs.length ≤ 63
theorem putF_ne {f g : Str} {v x : V} {r : List (Str × V)} (h : ¬ g = f) : putF f v ((g, x) :: r) = (g, x) :: putF f v r := by
  show (if g = f then _ else _) = _
  rw [if_neg h]
theorem ints_at {ns : List Int} {i : Nat} {x : V} (hx : (ns.map V.int)[i]? = some x) : ∃ z, x = V.int z := by
  rw [List.getElem?_map] at hx
  cases q : ns[i]? with
  | none => rw [q] at hx; cases hx
  | some z => rw [q] at hx; exact ⟨z, (Option.some.inj hx).symm⟩
theorem map_at {α : Type} {f : α → V} {l : List α} {i : Nat} {x : V} (h : (l.map f)[i]? = some x) : ∃ r, l[i]? = some r ∧ x = f r := by
  rw [List.getElem?_map] at h
  cases q : l[i]? with
  | none => rw [q] at h; cases h
  | some r => rw [q] at h; exact ⟨r, rfl, (Option.some.inj h).symm⟩
theorem Pool.ext {H H' : Hp} {p : Addr} (h : Pool H p) (e : Ext H H') : Pool H' p := by
  obtain ⟨a, b, c, n, hs, h1, r⟩ := h
  exact ⟨a, b, c, n, hs, e.look h1, r⟩
theorem Pool.lst {H : Hp} {p : Addr} (h : Pool H p) : ∃ xs, H p = some (.lst xs) := by
  obtain ⟨a, b, c, n, hs, h1, r⟩ := h
  exact ⟨_, h1⟩
theorem Pool.ne {H : Hp} {p q : Addr} (h : Pool H p) (nq : H q = none) : q ≠ p := by
  obtain ⟨xs, h1⟩ := h.lst
  exact Ne.symm (ne_of_none h1 nq)
theorem Pool.but {H H' : Hp} {p q : Addr} (h : Pool H p) (e : But q H H') (n : q ≠ p) : Pool H' p := by
  obtain ⟨a, b, c, n', hs, h1, r⟩ := h
  exact ⟨a, b, c, n', hs, e.look (Ne.symm n) h1, r⟩

open GM
abbrev shareF (t b : Int) : List (Str × V) := [("top", .int t), ("bottom", .int b)]
theorem _root_.GM.Sz.cm {a b : Nat} {x y : Int} (hx : Sz a x) (hy : Sz b y) (h : a + b ≤ 900000) : CM x y := CM.wide (a := a) (b := b) hx hy h
theorem _root_.GM.Sz.cd {k : Nat} {x y : Int} (hy : Sz k y) (hk : k ≤ 8900) (h0 : y ≠ 0) : CD x y := ⟨h0, Nat.lt_of_lt_of_le (PySem.Flt.log2_lt_of (k := 8900) (by decide) (hy.mono hk)) (by decide)⟩
theorem _root_.GM.Sz.of {x : Int} (h : -(1000 ^ 10) < x ∧ x < 1000 ^ 10) : Sz 100 x := by unfold Sz; omega
/-- in lowest terms, of at most n bits -/
structure Low (n : Nat) (T B : Int) : Prop where
  pos : 0 < B
  cop : Int.gcd T B = 1
  st : Sz n T
  sb : Sz n B
theorem Low.mono {n m : Nat} {T B : Int} (h : Low n T B) (l : n ≤ m) : Low m T B := ⟨h.pos, h.cop, h.st.mono l, h.sb.mono l⟩
theorem Low.int {n : Nat} {T : Int} (h : Sz n T) (h1 : 1 ≤ n) : Low n T 1 := ⟨by decide, by simp, h, Sz.one h1⟩
theorem v_isIC {K : PySem.W.Frag} {C : Addr} {i : Int} {H : Hp} {Q : VK} (k : PySem.W.kitOne K (.type "int") (.ref C) = some false) (q : Q (.bl false) H) : rIsi K [.int i, .ref C] H Q := ⟨.int i, .ref C, .type "int", .ref C, false, rfl, .own C, .base (.int i), k, q⟩
theorem v_isTC {K : PySem.W.Frag} {C a : Addr} {xs : List V} {H : Hp} {Q : VK} (ha : H a = some (.tup xs)) (k : PySem.W.kitOne K (.type "tuple") (.ref C) = some false) (q : Q (.bl false) H) : rIsi K [.ref a, .ref C] H Q := ⟨.ref a, .ref C, .type "tuple", .ref C, false, rfl, .own C, .base (.tup ha), k, q⟩
/-- a share, or a whole number -/
def IsSh (C : Addr) (H : Hp) (y : V) (T B : Int) : Prop := (∃ a dx, y = .ref a ∧ H a = some (.ins C dx (shareF T B))) ∨ (y = .int T ∧ B = 1)
theorem IsSh.ext {C : Addr} {H H' : Hp} {y : V} {T B : Int} (h : IsSh C H y T B) (e : Ext H H') : IsSh C H' y T B := by
  rcases h with ⟨a, dx, rfl, h⟩ | h
  · exact .inl ⟨a, dx, rfl, e.look h⟩
  · exact .inr h

def sp__law_draw (c : Ad) : Sp := fun vs H Q _ => vs.length = 2 ∧ ∃ (p : Addr) (m : Int), vs = [.ref p, .int m] ∧ Pool H p ∧ 0 < m ∧ m ≤ 1000 ∧ ∀ r H', 0 ≤ r → r < m → But p H H' → Pool H' p → Q (.int r) H'
def sp__law_pool (c : Ad) : Sp := fun vs H Q _ => vs.length = 1 ∧ ∃ (a : Addr) (ns : List Int), vs = [.ref a] ∧ SqL c.K H a (ns.map V.int) ∧ ns.length ≤ 63 ∧ (∀ n ∈ ns, Builtin.Int.intBits n ≤ 1048576) ∧ ∀ p H', H p = none → Ext H H' → Pool H' p → Q (.ref p) H'
def sp_gcd (c : Ad) : Sp := fun vs H Q _ => vs.length = 2 ∧ ∃ a b : Int, vs = [.int a, .int b] ∧ Q (.int (Int.gcd a b : Int)) H
def sp_Share___init__ (c : Ad) : Sp := fun vs H Q E => vs.length = 3 ∧ ∃ (x dx : Addr) (t b : Int) (m : Nat), vs = [.ref x, .int t, .int b] ∧ H x = some (.ins c.Share dx []) ∧ m ≤ 8900 ∧ Sz m t ∧ Sz m b ∧
    (b ≠ 0 → ∀ T B H', Low m T B → T * b = t * B → But x H H' → H' x = some (.ins c.Share dx (shareF T B)) → Q .non H') ∧
    (b = 0 → ∀ u d H', Ext H H' → H' u = some (.tup [.int t, .int b]) → H' d = some (.xd (subj (.ref u))) → E (.ref c.BadShare) (some d) H')
def sp_as_share (c : Ad) : Sp := fun vs H Q _ => vs.length = 1 ∧ ∃ (y : V) (t b : Int) (n : Nat), vs = [y] ∧ IsSh c.Share H y t b ∧ n ≤ 8900 ∧ Low n t b ∧ ∀ x dx H', Ext H H' → H' x = some (.ins c.Share dx (shareF t b)) → Q (.ref x) H'
def sp_Share___sub__ (c : Ad) : Sp := fun vs H Q _ => vs.length = 2 ∧ ∃ (a dx : Addr) (y : V) (t b t' b' : Int) (n : Nat), vs = [.ref a, y] ∧ H a = some (.ins c.Share dx (shareF t b)) ∧ IsSh c.Share H y t' b' ∧ n ≤ 4000 ∧ Low n t b ∧ Low n t' b' ∧ ∀ x dx' T B H', Low (2 * n + 1) T B → T * (b * b') = (t * b' - t' * b) * B → Ext H H' → H' x = some (.ins c.Share dx' (shareF T B)) → Q (.ref x) H'
def sp_Share___mul__ (c : Ad) : Sp := fun vs H Q _ => vs.length = 2 ∧ ∃ (a dx : Addr) (y : V) (t b t' b' : Int) (n : Nat), vs = [.ref a, y] ∧ H a = some (.ins c.Share dx (shareF t b)) ∧ IsSh c.Share H y t' b' ∧ n ≤ 4000 ∧ Low n t b ∧ Low n t' b' ∧ ∀ x dx' T B H', Low (2 * n + 1) T B → T * (b * b') = t * t' * B → Ext H H' → H' x = some (.ins c.Share dx' (shareF T B)) → Q (.ref x) H'
def sp_Share___floordiv__ (c : Ad) : Sp := fun vs H Q E => vs.length = 2 ∧ ∃ (a dx : Addr) (y : V) (t b t' b' : Int) (n : Nat), vs = [.ref a, y] ∧ H a = some (.ins c.Share dx (shareF t b)) ∧ IsSh c.Share H y t' b' ∧ 1 ≤ n ∧ n ≤ 400 ∧ Low n t b ∧ Low n t' b' ∧ (t' ≠ 0 → ∀ H', Ext H H' → Q (.int ((t * b').fdiv (b * t'))) H') ∧ (t' = 0 → ∀ d H', Ext H H' → H' d = some (.xd (subj (.ref a))) → E (.ref c.BadShare) (some d) H')
def sp_Share_over (c : Ad) : Sp := fun vs H Q E => vs.length = 2 ∧ ∃ (a dx : Addr) (y : V) (t b t' b' : Int) (n : Nat), vs = [.ref a, y] ∧ H a = some (.ins c.Share dx (shareF t b)) ∧ IsSh c.Share H y t' b' ∧ 1 ≤ n ∧ n ≤ 400 ∧ Low n t b ∧ Low n t' b' ∧ (t' ≠ 0 → ∀ x dx' T B H', Low (2 * n) T B → T * (b * t') = t * b' * B → Ext H H' → H' x = some (.ins c.Share dx' (shareF T B)) → Q (.ref x) H') ∧ (t' = 0 → ∀ d H', Ext H H' → H' d = some (.xd (subj (.ref a))) → E (.ref c.BadShare) (some d) H')
def sp_Share___mod__ (c : Ad) : Sp := fun vs H Q E => vs.length = 2 ∧ ∃ (a dx : Addr) (y : V) (t b t' b' : Int) (n : Nat), vs = [.ref a, y] ∧ H a = some (.ins c.Share dx (shareF t b)) ∧ IsSh c.Share H y t' b' ∧ 1 ≤ n ∧ n ≤ 400 ∧ Low n t b ∧ Low n t' b' ∧ (t' ≠ 0 → ∀ x dx' T B H', Low (2 * n) T B → T * (b * b') = (t * b').fmod (b * t') * B → Ext H H' → H' x = some (.ins c.Share dx' (shareF T B)) → Q (.ref x) H') ∧ (t' = 0 → ∀ d H', Ext H H' → H' d = some (.xd (subj (.ref a))) → E (.ref c.BadShare) (some d) H')
def sp__law_number (c : Ad) : Sp := fun vs H Q _ => vs.length = 2 ∧ ∃ (p : Addr) (g : Nat), vs = [.ref p, .int (g : Int)] ∧ Pool H p ∧ 1 ≤ g ∧ g ≤ 10 ∧ ∀ r H', 0 ≤ r → r < 1000 ^ g → But p H H' → Pool H' p → Q (.int r) H'
def sp__law_signed (c : Ad) : Sp := fun vs H Q _ => vs.length = 2 ∧ ∃ (p : Addr) (g : Nat), vs = [.ref p, .int (g : Int)] ∧ Pool H p ∧ 1 ≤ g ∧ g ≤ 10 ∧ ∀ r H', -(1000 ^ g) < r → r < 1000 ^ g → But p H H' → Pool H' p → Q (.int r) H'
def sp__law_pair (c : Ad) : Sp := fun vs H Q _ => vs.length = 2 ∧ ∃ (p : Addr) (g : Nat), vs = [.ref p, .int (g : Int)] ∧ Pool H p ∧ (g = 5 ∨ g = 10) ∧ ∀ u t b H', -(1000 ^ g) < t → t < 1000 ^ g → -(1000 ^ g) < b → b < 1000 ^ g → b ≠ 0 → But p H H' → Pool H' p → H' u = some (.tup [.int t, .int b]) → Q (.ref u) H'
def sp__law_whole (c : Ad) : Sp := fun vs H Q _ => vs.length = 1 ∧ ∃ (i : Int), vs = [.int i] ∧ Q (.bl true) H
def sp__law_coprime (c : Ad) : Sp := fun vs H Q _ => vs.length = 2 ∧ ∃ (a b : Int) (m : Nat), vs = [.int a, .int b] ∧ 0 ≤ a ∧ 0 ≤ b ∧ m ≤ 240 ∧ Sz m a ∧ Sz m b ∧ Int.gcd a b = 1 ∧ Q (.bl true) H
def sp__law_is (c : Ad) : Sp := fun vs H Q _ => vs.length = 3 ∧ ∃ (x dx : Addr) (t b T B : Int) (m : Nat), vs = [.ref x, .int t, .int b] ∧ H x = some (.ins c.Share dx (shareF T B)) ∧ m ≤ 240 ∧ Low m T B ∧ Sz 500 t ∧ Sz 500 b ∧ T * b = t * B ∧ Q (.bl true) H
def sp__law_quotients (c : Ad) : Sp := fun vs H Q _ => vs.length = 4 ∧ ∃ (x dx : Addr) (y : V) (u v : Addr) (a0 a1 b0 b1 t b t' b' : Int), vs = [.ref x, .ref u, y, .ref v] ∧ H x = some (.ins c.Share dx (shareF t b)) ∧ IsSh c.Share H y t' b' ∧ H u = some (.tup [.int a0, .int a1]) ∧ H v = some (.tup [.int b0, .int b1]) ∧ Sz 100 a0 ∧ Sz 100 a1 ∧ Sz 100 b0 ∧ Sz 100 b1 ∧ Low 100 t b ∧ Low 100 t' b' ∧ t * a1 = a0 * b ∧ t' * b1 = b0 * b' ∧ a1 ≠ 0 ∧ b1 ≠ 0 ∧ t' ≠ 0 ∧ ∀ H', Ext H H' → Q (.bl true) H'
def sp__law_refused (c : Ad) : Sp := fun vs H Q _ => vs.length = 4 ∧ ∃ (x dx : Addr) (y : V) (u : Addr) (a0 a1 t b : Int) (j : Nat), vs = [.ref x, .ref u, y, .int (j : Int)] ∧ H x = some (.ins c.Share dx (shareF t b)) ∧ IsSh c.Share H y 0 1 ∧ H u = some (.tup [.int a0, .int a1]) ∧ Sz 100 a0 ∧ Sz 100 a1 ∧ Low 100 t b ∧ t * a1 = a0 * b ∧ j < 3 ∧ ∀ H', Ext H H' → Q (.bl true) H'
def sp_law (c : Ad) : Sp := spLaw c.K
theorem call_draw {c : Ad} {H : Hp} {Q : VK} {E : XK} {p : Addr} {m : Int} (hp : Pool H p) (h0 : 0 < m) (h1 : m ≤ 1000) (k : ∀ r H', 0 ≤ r → r < m → But p H H' → Pool H' p → Q (.int r) H') : sp__law_draw c [.ref p, .int m] H Q E := ⟨rfl, p, m, rfl, hp, h0, h1, k⟩
theorem call_pool {c : Ad} {H : Hp} {Q : VK} {E : XK} {a : Addr} {ns : List Int} (hS : SqL c.K H a (ns.map V.int)) (hn : ns.length ≤ 63) (hb : ∀ n ∈ ns, Builtin.Int.intBits n ≤ 1048576) (k : ∀ p H', H p = none → Ext H H' → Pool H' p → Q (.ref p) H') : sp__law_pool c [.ref a] H Q E := ⟨rfl, a, ns, rfl, hS, hn, hb, k⟩

section
variable {c : Ad} {H : Hp} {Q : VK} {E : XK} {a b dx dy o : Addr} {t u T B T' B' n : Int}
theorem pow_ge {g : Nat} (h : 1 ≤ g) : (1000 : Int) ≤ 1000 ^ g := by
  have := Nat.pow_le_pow_right (show 0 < 1000 by decide) h
  exact_mod_cast this
theorem pow_le {i g : Nat} (h : i ≤ g) : (1000 : Int) ^ i ≤ 1000 ^ g := by
  have := Nat.pow_le_pow_right (show 0 < 1000 by decide) h
  exact_mod_cast this
theorem mk_share_ok {E : XK} (m : Nat) (hm : m ≤ 8900) (hb : u ≠ 0) (st : Sz m t) (sb : Sz m u) (k : ∀ x dx T B H', Low m T B → T * u = t * B → Ext H H' → H' x = some (.ins c.Share dx (shareF T B)) → Q (.ref x) H') : rMk c.Share (sp_Share___init__ c) E [.int t, .int u] H Q :=
  v_mk fun x dx H1 hx e1 h1' => ⟨rfl, x, dx, t, u, m, rfl, h1', hm, st, sb, fun _ T B H2 lo he e2 h2 => ⟨rfl, k x dx T B H2 lo he (e2.ext e1 hx) h2⟩, fun z => absurd z hb⟩
theorem call_whole (k : Q (.bl true) H) : sp__law_whole c [.int n] H Q E := ⟨rfl, n, rfl, k⟩
theorem call_is (ha : H a = some (.ins c.Share dx (shareF T B))) (m : Nat) (hm : m ≤ 240) (lo : Low m T B) (st : Sz 500 t) (su : Sz 500 u) (he : T * u = t * B) (k : Q (.bl true) H) : sp__law_is c [.ref a, .int t, .int u] H Q E := ⟨rfl, a, dx, t, u, T, B, m, rfl, ha, hm, lo, st, su, he, k⟩
end

section
variable {c : Ad} {H : Hp} {Q : VK} {E : L2.St → XK} {σ : L2.St} {x dx : Addr} {y : V} {t b t' b' : Int}
theorem e_fdiv (hx : H x = some (.ins c.Share dx (shareF t b))) (hy : IsSh c.Share H y t' b') (lo : Low 100 t b) (lo2 : Low 100 t' b') (h0 : t' ≠ 0) (k : ∀ H', Ext H H' → Q (.int ((t * b').fdiv (b * t'))) H') : rEitherR c.Share (sp_Share___floordiv__ c) E σ (.ref x) y H Q := by
  have hy' := hy
  rcases hy with ⟨a2, dx2, rfl, ha2⟩ | ⟨rfl, rfl⟩
  · exact v_er1 hx ha2 ⟨rfl, x, dx, .ref a2, t, b, t', b', 100, rfl, hx, hy', by decide, by decide, lo, lo2, fun _ => k, fun z => absurd z h0⟩
  · exact v_er2 hx ⟨rfl, x, dx, .int t', t, b, t', 1, 100, rfl, hx, hy', by decide, by decide, lo, lo2, fun _ => k, fun z => absurd z h0⟩
theorem e_mod (hx : H x = some (.ins c.Share dx (shareF t b))) (hy : IsSh c.Share H y t' b') (lo : Low 100 t b) (lo2 : Low 100 t' b') (h0 : t' ≠ 0) (k : ∀ x dx' T B H', Low 200 T B → T * (b * b') = (t * b').fmod (b * t') * B → Ext H H' → H' x = some (.ins c.Share dx' (shareF T B)) → Q (.ref x) H') : rEitherR c.Share (sp_Share___mod__ c) E σ (.ref x) y H Q := by
  have hy' := hy
  rcases hy with ⟨a2, dx2, rfl, ha2⟩ | ⟨rfl, rfl⟩
  · exact v_er1 hx ha2 ⟨rfl, x, dx, .ref a2, t, b, t', b', 100, rfl, hx, hy', by decide, by decide, lo, lo2, fun _ => k, fun z => absurd z h0⟩
  · exact v_er2 hx ⟨rfl, x, dx, .int t', t, b, t', 1, 100, rfl, hx, hy', by decide, by decide, lo, lo2, fun _ => k, fun z => absurd z h0⟩
theorem low0 : Low 100 0 1 := ⟨by decide, by decide, (by unfold Sz; decide), Sz.one (by decide)⟩
theorem e_fdiv0 (hx : H x = some (.ins c.Share dx (shareF t b))) (hy : IsSh c.Share H y 0 1) (lo : Low 100 t b) (k : ∀ d H', Ext H H' → H' d = some (.xd (subj (.ref x))) → E σ (.ref c.BadShare) (some d) H') : rEitherR c.Share (sp_Share___floordiv__ c) E σ (.ref x) y H Q := by
  have hy' := hy
  rcases hy with ⟨a2, dx2, rfl, ha2⟩ | ⟨rfl, _⟩
  · exact v_er1 hx ha2 ⟨rfl, x, dx, .ref a2, t, b, 0, 1, 100, rfl, hx, hy', by decide, by decide, lo, low0, fun z => absurd rfl z, fun _ => k⟩
  · exact v_er2 hx ⟨rfl, x, dx, .int 0, t, b, 0, 1, 100, rfl, hx, hy', by decide, by decide, lo, low0, fun z => absurd rfl z, fun _ => k⟩
theorem e_mod0 (hx : H x = some (.ins c.Share dx (shareF t b))) (hy : IsSh c.Share H y 0 1) (lo : Low 100 t b) (k : ∀ d H', Ext H H' → H' d = some (.xd (subj (.ref x))) → E σ (.ref c.BadShare) (some d) H') : rEitherR c.Share (sp_Share___mod__ c) E σ (.ref x) y H Q := by
  have hy' := hy
  rcases hy with ⟨a2, dx2, rfl, ha2⟩ | ⟨rfl, _⟩
  · exact v_er1 hx ha2 ⟨rfl, x, dx, .ref a2, t, b, 0, 1, 100, rfl, hx, hy', by decide, by decide, lo, low0, fun z => absurd rfl z, fun _ => k⟩
  · exact v_er2 hx ⟨rfl, x, dx, .int 0, t, b, 0, 1, 100, rfl, hx, hy', by decide, by decide, lo, low0, fun z => absurd rfl z, fun _ => k⟩
end

end K02
namespace K02
open PySem L2 GG PyProof.Rows
open GM
local macro_rules | `(tactic| got_up) => `(tactic| first
  | assumption
  | (refine Ext.look (by assumption) ?_; got_up)
  | (refine But.look (by assumption) (by first | assumption | (exact Ne.symm (by assumption))) ?_; got_up)
  | (refine But.lookK (by assumption) (by got_up) (by got_up) (by intro hh; cases hh)))
local macro_rules | `(tactic| mem_news) => `(tactic| first
  | (with_reducible refine v_ixL (by got_up) (by decide) (by with_unfolding_all rfl) ?_)
  | (with_reducible refine v_ixT (by got_up) (by decide) (by with_unfolding_all rfl) ?_)
  | (with_reducible refine r_fld (by got_up) (by assumption) (by assumption) (by with_unfolding_all rfl) ?_)
  | (with_reducible refine v_mod (by first | assumption | decide | omega) ?_)
  | (with_reducible refine v_mul (by first | exact CM.left (by omega) (by omega) | exact CM.right (by omega) (by omega)) ?_)
  | (with_reducible refine r_tup (by simp) ?_; intro _ _ _ _ _)
  | (with_reducible refine r_lst (by simp) ?_; intro _ _ _ _ _)
  | (with_reducible refine v_lenL (by got_up) ?_)
  | (with_reducible refine v_lenT (by got_up) ?_)
  | (with_reducible refine g_tup (by got_up) (by with_unfolding_all rfl) ?_)
  | (with_reducible refine r_rng1 (by decide) (by decide) ?_)
  | (with_reducible refine r_seqL (by got_up) ?_)
  | (with_reducible refine r_seqT (by got_up) ?_)
  | (with_reducible refine v_own (by got_up) (by got_up) ?_)
  | (with_reducible refine v_ownI (by got_up) ?_)
  | (with_reducible refine v_ownIn (by got_up) ?_)
  | (with_reducible refine v_own1 (by got_up) ?_)
  | (with_reducible refine v_ownC (by got_up) ?_)
  | (with_reducible refine v_ownB (by got_up) ?_)
  | (with_reducible refine v_ownLen (by got_up) ?_)
  | (with_reducible refine v_mt (by got_up) (by with_unfolding_all rfl) ?_)
  | (with_reducible refine v_isO (by got_up) (by assumption) ?_)
  | (with_reducible refine And.intro (ty_list (by got_up)) ?_)
  | (with_reducible refine v_eqT2 (by got_up) (by got_up) ?_)
  | ((with_reducible refine run_tryAs ?_); intro _ _)
  | (with_reducible refine call_whole ?_)
  | ((with_reducible refine run_tryOnly ?_); intro _ _))
local macro_rules | `(tactic| reads_via) => `(tactic| repeat' (first | (with_reducible refine StP.h ?_) | mem_news))
local macro_rules | `(tactic| o_reads) => `(tactic| repeat ((fail_if_success (with_reducible refine is_if ?_)); first | (with_reducible refine St1.h ?_) | mem_news))

set_option maxHeartbeats 1000000 in
theorem ok__law_draw {P : Program} {w : World} {K : PySem.W.Frag} {mg : Str → Option Value} {base : Heap} {c : Ad} {f : Addr} {fd : FuncData} (F : Fun K "_law_draw" "_law_draw" s__law_draw f fd) (T : Txt K mg c)  :
    FnOk P w K mg base (L2N.CX P w) 1 f fd ["_law_pool_here", "_law_many"] (sp__law_draw c) := by
  refine GG.Fun.okN F sc__law_draw (fun vs H Q E h => h.1) (fun cdv ar ou sh H vs Q E hr h => ?_)
  obtain ⟨_, p, m, rfl, ⟨a, b, c, n, hs, hp, ha, hb, hc, hl⟩, hm0, hm1, k⟩ := h
  have tk := L2N.takes_of (X := cxOf (L2N.CX P w) P w K mg base ["_law_pool_here", "_law_many", "_law_first", "_law_second", "_law_found"] "_law_draw" (defScope s__law_draw) f cdv ar ou sh H E) rfl rfl rfl rfl
  refine ⟨_, (pss_cons (ps_asg (pe_op (u_add K) (pe_ix (u_ix K) (pv 0) pe_int (fun _ _ => rfl)) pe_int) (pg_sub (pv 0) pe_int u_set))
      (pss_cons (ps_if (pt_cmpR u_gt (pe_callB (c_len K) (by rfl) T.b_len (by decide +kernel) (pa_cons (pv 0) pa_nil)) pe_int (nomark _))
      (pss_cons (ps_asg (pe_op u_mod (pe_callTy c_int (by rfl) T.b_int (by decide +kernel) (pa_cons (pe_ix (u_ix K) (pv 0) pe_int (fun _ _ => rfl)) pa_nil)) (pv 1)) (pg_name (i := 4) sc__law_draw.nd rfl (Or.inl rfl)))
      (pss_cons (ps_asg (pe_op u_fdiv (pe_ix (u_ix K) (pv 0) pe_int (fun _ _ => rfl)) (pv 1)) (pg_sub (pv 0) pe_int u_set))
      (pss_cons (ps_if (pt_cmpR (u_eq K hr.units) (pe_ix (u_ix K) (pv 0) pe_int (fun _ _ => rfl)) pe_int (nomark _))
      (pss_one (ps_expr (pe_bmK K (pe_bm PySem.F.plainAttrs_list PySem.F.slot_list_pop PySem.F.type_list_pop m_popAt (pv 0) (pa_cons pe_int pa_nil)))))
      pss_nil)
      (pss_one (ps_ret (pv 4))))))
      pss_nil)
      (pss_cons (ps_asg (pe_op u_mod (pe_callTy c_int (by rfl) T.b_int (by decide +kernel) (pa_cons (pe_op (u_add K) (pe_ix (u_ix K) (pv 0) pe_int (fun _ _ => rfl)) (pe_op u_mul pe_int (pe_ix (u_ix K) (pv 0) pe_int (fun _ _ => rfl)))) pa_nil)) pe_int) (pg_name (i := 2) sc__law_draw.nd rfl (Or.inl rfl)))
      (pss_cons (ps_asg (pe_op u_mod (pe_callTy c_int (by rfl) T.b_int (by decide +kernel) (pa_cons (pe_op (u_add K) (pe_ix (u_ix K) (pv 0) pe_int (fun _ _ => rfl)) (pe_op u_mul (pv 2) (pv 2))) pa_nil)) pe_int) (pg_name (i := 3) sc__law_draw.nd rfl (Or.inl rfl)))
      (pss_one (ps_ret (pe_op u_mod (pe_op u_mod (pe_callTy c_int (by rfl) T.b_int (by decide +kernel) (pa_cons (pe_op (u_add K) (pe_op (u_add K) (pe_ix (u_ix K) (pv 0) pe_int (fun _ _ => rfl)) (pe_op u_mul pe_int (pe_ix (u_ix K) (pv 0) pe_int (fun _ _ => rfl)))) (pe_op u_mul (pv 3) (pv 3))) pa_nil)) pe_int) (pv 1)))))))), ?_⟩
  try dsimp only [L2H.cxH, cxOf, Cx.suite, Cx.tr, List.map_cons, List.map_nil]
  refine run_start (σ := [some (.ref p), some (.int m), none, none, none]) rfl ?_
  clear tk
  reads_via
  refine v_set (by got_up) (by decide) (by simp) fun H1 e1 h1 => ?_
  simp only [Int.reduceToNat, List.set_cons_succ, List.set_cons_zero] at h1
  reads_via
  refine br_d (fun c1 => ?_) (fun c1 => ?_)
  · obtain ⟨h0, hs, rfl⟩ : ∃ h0 t, hs = h0 :: t := by
      cases hs with
      | nil => simp at c1
      | cons x t => exact ⟨x, t, rfl⟩
    simp only [List.map_cons] at h1
    simp only [List.length_cons] at hl
    reads_via
    refine v_fdiv (cd_small hm0 (by omega)) ?_
    reads_via
    refine v_set (by got_up) (by decide) (by simp) fun H2 e2 h2 => ?_
    simp only [Int.reduceToNat, List.set_cons_succ, List.set_cons_zero] at h2
    reads_via
    refine br_d (fun c2 => ?_) (fun c2 => ?_)
    · reads_via
      refine v_popAt (by got_up) (by decide) (by decide) (by with_unfolding_all rfl) fun H3 e3 h3 => ?_
      simp only [Int.reduceToNat, List.eraseIdx_cons_succ, List.eraseIdx_cons_zero] at h3
      reads_via
      exact k _ _ (Int.emod_nonneg _ (by omega)) (Int.emod_lt_of_pos _ hm0) ((e1.trans e2).trans e3) ⟨a, b, c, n + 1, hs, h3, ha, hb, hc, by omega⟩
    · reads_via
      exact k _ _ (Int.emod_nonneg _ (by omega)) (Int.emod_lt_of_pos _ hm0) (e1.trans e2) ⟨a, b, c, n + 1, _ :: hs, h2, ha, hb, hc, by simp; omega⟩
  · reads_via
    exact k _ _ (Int.emod_nonneg _ (by omega)) (Int.emod_lt_of_pos _ hm0) e1 ⟨a, b, c, n + 1, hs, h1, ha, hb, hc, hl⟩
set_option maxHeartbeats 1000000 in
theorem ok__law_pool {P : Program} {w : World} {K : PySem.W.Frag} {mg : Str → Option Value} {base : Heap} {c : Ad} {f : Addr} {fd : FuncData} (F : Fun K "_law_pool" "_law_pool" s__law_pool f fd) (T : Txt K mg c)  :
    FnOk P w K mg base (L2N.CX P w) 1 f fd ["_law_script"] (sp__law_pool c) := by
  refine GG.Fun.okN F sc__law_pool (fun vs H Q E h => h.1) (fun cdv ar ou sh H vs Q E hr h => ?_)
  obtain ⟨_, a, ns, rfl, hS, hn, hb, k⟩ := h
  rw [T.kk] at hS
  have tk := L2N.takes_of (X := cxOf (L2N.CX P w) P w K mg base ["_law_script", "_law_pool_here", "_law_cell"] "_law_pool" (defScope s__law_pool) f cdv ar ou sh H E) rfl rfl rfl rfl
  refine ⟨_, (pss_cons (ps_asg (pe_lst (pa_cons pe_int (pa_cons pe_int (pa_cons pe_int (pa_cons pe_int pa_nil))))) (pg_name (i := 1) sc__law_pool.nd rfl (Or.inl rfl)))
      (pss_cons (ps_for (passes_of rfl) rfl (pi_listK K (pi_list (pv 0))) (pg_name (i := 2) sc__law_pool.nd rfl (Or.inl rfl))
      (pss_one (ps_if (pt_cmpR u_ge (pv 2) (pe_op u_pow pe_int pe_int) (nomark _))
      (pss_one (ps_expr (pe_bmK K (pe_bm PySem.F.plainAttrs_list PySem.F.slot_list_append PySem.F.type_list_append m_append (pv 1) (pa_cons (pv 2) pa_nil)))))
      (pss_cons (ps_asg (pe_op u_mod (pe_callTy c_int (by rfl) T.b_int (by decide +kernel) (pa_cons (pe_op (u_add K) (pe_op u_mul (pe_ix (u_ix K) (pv 1) pe_int (fun _ _ => rfl)) pe_int) (pv 2)) pa_nil)) pe_int) (pg_sub (pv 1) pe_int u_set))
      (pss_cons (ps_asg (pe_op u_mod (pe_callTy c_int (by rfl) T.b_int (by decide +kernel) (pa_cons (pe_op (u_add K) (pe_op u_mul (pe_ix (u_ix K) (pv 1) pe_int (fun _ _ => rfl)) pe_int) (pe_op u_mul (pv 2) (pv 2))) pa_nil)) pe_int) (pg_sub (pv 1) pe_int u_set))
      (pss_one (ps_asg (pe_op u_mod (pe_callTy c_int (by rfl) T.b_int (by decide +kernel) (pa_cons (pe_op (u_add K) (pe_op u_mul (pe_ix (u_ix K) (pv 1) pe_int (fun _ _ => rfl)) pe_int) (pe_op u_mul (pv 2) pe_int)) pa_nil)) pe_int) (pg_sub (pv 1) pe_int u_set))))))))
      (pss_one (ps_ret (pv 1))))), ?_⟩
  try dsimp only [L2H.cxH, cxOf, Cx.suite, Cx.tr, List.map_cons, List.map_nil]
  refine run_start (σ := [some (.ref a), none, none]) rfl ?_
  clear tk
  refine StP.h ?_
  refine r_lst (by simp) fun p H0 np e0 h0 => ?_
  refine StP.h ?_
  refine r_seqLK (e0.sq hS) ?_
  refine f_list (xs := ns.map V.int) (fun i σ H' => ∃ v, σ = [some (.ref a), some (.ref p), v] ∧ Ext H H' ∧ i ≤ ns.length ∧ ∃ a b c n : Int, ∃ hs : List Int, H' p = some (.lst (.int a :: .int b :: .int c :: .int n :: hs.map V.int)) ∧ (0 ≤ a ∧ a < 101) ∧ (0 ≤ b ∧ b < 103) ∧ (0 ≤ c ∧ c < 1009) ∧ hs.length ≤ i) ?_ ?_ ?_ ?_
  · exact ⟨none, rfl, e0, Nat.zero_le _, 1, 2, 3, 0, [], h0, by decide, by decide, by decide, Nat.le_refl _⟩
  · rintro i σ H' hi ⟨v, rfl, e, _⟩
    exact e.sq hS
  · rintro i x σ H' hx ⟨v, rfl, e, hi, a1, b1, c1, n1, hs, h1, ha, hb1, hc, hl⟩
    obtain ⟨z, hz, rfl⟩ : ∃ z, ns[i]? = some z ∧ x = V.int z := by
      rw [List.getElem?_map] at hx
      cases q : ns[i]? with
      | none => rw [q] at hx; cases hx
      | some z => rw [q] at hx; exact ⟨z, rfl, (Option.some.inj hx).symm⟩
    have hi' : i < ns.length := (List.getElem?_eq_some_iff.mp hz).1
    have hbz := hb z (List.mem_of_getElem? hz)
    reads_via
    refine v_pow ⟨by decide, by decide, by decide⟩ ?_
    reads_via
    refine br_d (fun c2 => ?_) (fun c2 => ?_)
    · reads_via
      refine v_append (by got_up) (by simp; omega) fun H2 e2 h2 => ?_
      reads_via
      refine ⟨_, rfl, e2.ext e np, hi', a1, b1, c1, n1, hs ++ [z], ?_, ha, hb1, hc, by simp; omega⟩
      rw [h2]
      simp
    · reads_via
      refine v_set (by got_up) (by decide) (by simp) fun H2 e2 h2 => ?_
      simp only [Int.reduceToNat, List.set_cons_succ, List.set_cons_zero] at h2
      reads_via
      refine v_mul (IntMulOk.of_bits hbz hbz) ?_
      reads_via
      refine v_set (by got_up) (by decide) (by simp) fun H3 e3 h3 => ?_
      simp only [Int.reduceToNat, List.set_cons_succ, List.set_cons_zero] at h3
      reads_via
      refine v_set (by got_up) (by decide) (by simp) fun H4 e4 h4 => ?_
      simp only [Int.reduceToNat, List.set_cons_succ, List.set_cons_zero] at h4
      reads_via
      exact ⟨_, rfl, ((e2.trans e3).trans e4).ext e np, hi', _, _, _, _, hs, h4, ⟨Int.emod_nonneg _ (by decide), Int.emod_lt_of_pos _ (by decide)⟩, ⟨Int.emod_nonneg _ (by decide), Int.emod_lt_of_pos _ (by decide)⟩, ⟨Int.emod_nonneg _ (by decide), Int.emod_lt_of_pos _ (by decide)⟩, by omega⟩
  · rintro σ H' ⟨v, rfl, e, hi, a1, b1, c1, n1, hs, h1, ha, hb1, hc, hl⟩
    reads_via
    exact k p H' np e ⟨a1, b1, c1, n1, hs, h1, ha, hb1, hc, by simp at hl; omega⟩
set_option maxHeartbeats 1000000 in
theorem ok_gcd {P : Program} {w : World} {K : PySem.W.Frag} {mg : Str → Option Value} {base : Heap} {c : Ad} {f : Addr} {fd : FuncData} (F : Fun K "gcd" "gcd" s_gcd f fd) (T : Txt K mg c)  :
    FnOk P w K mg base (L2N.CX P w) 1 f fd ["one", "two"] (sp_gcd c) := by
  refine GG.Fun.okN F sc_gcd (fun vs H Q E h => h.1) (fun cdv ar ou sh H vs Q E hr h => ?_)
  obtain ⟨_, a, b, rfl, k⟩ := h
  have tk := L2N.takes_of (X := cxOf (L2N.CX P w) P w K mg base ["one", "two"] "gcd" (defScope s_gcd) f cdv ar ou sh H E) rfl rfl rfl rfl
  refine ⟨_, (pss_cons (ps_while (passes_of rfl) (pt_cmpR (u_ne K hr.units) (pv 1) pe_int (nomark _))
      (pss_one (ps_par (i := 0) (j := 1) (by rfl) sc_gcd.nd rfl rfl (by decide) rfl rfl (pa_cons (pv 1) (pa_cons (pe_op u_mod (pv 0) (pv 1)) pa_nil)) (by rfl))))
      (pss_one (ps_ret (pe_callB c_abs (by rfl) T.b_abs (by decide +kernel) (pa_cons (pv 0) pa_nil))))), ?_⟩
  try dsimp only [L2H.cxH, cxOf, Cx.suite, Cx.tr, List.map_cons, List.map_nil]
  refine run_start (σ := [some (.int a), some (.int b)]) rfl ?_
  clear tk
  reads_via
  refine run_while (fun m σ H' => ∃ x y : Int, σ = [some (.int x), some (.int y)] ∧ H' = H ∧ Int.gcd x y = Int.gcd a b ∧ m = y.natAbs) ⟨_, a, b, rfl, rfl, rfl, rfl⟩ ?_
  rintro m σ H' ⟨x, y, rfl, rfl, hg, rfl⟩
  reads_via
  refine br_d (fun c1 => ?_) (fun c1 => ?_)
  · subst c1
    reads_via
    rw [Int.gcd_zero_right] at hg
    rw [show (if x < 0 then -x else x) = (Int.gcd a b : Int) by split <;> omega]
    exact k
  · reads_via
    refine v_modN c1 ?_
    reads_via
    exact ⟨_, GM.fmod_lt c1, _, _, rfl, rfl, by rw [GM.gcd_fmod]; exact hg, rfl⟩
set_option maxHeartbeats 1000000 in
theorem ok__law_whole {P : Program} {w : World} {K : PySem.W.Frag} {mg : Str → Option Value} {base : Heap} {c : Ad} {f : Addr} {fd : FuncData} (F : Fun K "_law_whole" "_law_whole" s__law_whole f fd) (T : Txt K mg c)  :
    FnOk P w K mg base (L2N.CX P w) 1 f fd ["_law_value"] (sp__law_whole c) := by
  refine GG.Fun.okN F sc__law_whole (fun vs H Q E h => h.1) (fun cdv ar ou sh H vs Q E hr h => ?_)
  obtain ⟨_, i, rfl, k⟩ := h
  have tk := L2N.takes_of (X := cxOf (L2N.CX P w) P w K mg base ["_law_value"] "_law_whole" (defScope s__law_whole) f cdv ar ou sh H E) rfl rfl rfl rfl
  refine ⟨_, (pss_one (ps_ret (pe_and (pe_callB (c_isi K) (by rfl) T.b_isinstance (by decide +kernel) (pa_cons (pv 0) (pa_cons (pe_bltn (v := .ty "int") rfl T.b_int (by decide +kernel) rfl) pa_nil))) (pe_one (pe_not (pe_callB (c_isi K) (by rfl) T.b_isinstance (by decide +kernel) (pa_cons (pv 0) (pa_cons (pe_bltn (v := .ty "bool") rfl T.b_bool (by decide +kernel) rfl) pa_nil)))))))), ?_⟩
  try dsimp only [L2H.cxH, cxOf, Cx.suite, Cx.tr, List.map_cons, List.map_nil]
  refine run_start (σ := [some (.int i)]) rfl ?_
  clear tk
  reads_via
  exact k
set_option maxHeartbeats 1000000 in
theorem okH__law_whole {P : Program} {w : World} {K : PySem.W.Frag} {mg : Str → Option Value} {base : Heap} {c : Ad} {f : Addr} {fd : FuncData} (F : Fun K "_law_whole" "_law_whole" s__law_whole f fd) (T : Txt K mg c)  :
    L2H.FnH P w K mg base (L2N.CX P w) 1 f fd ["_law_value"] (sp__law_whole c) := by
  refine GG.Fun.okH F sc__law_whole (fun vs H Q E h => h.1) (fun cdv ar ou sh H vs Q E pp hot hr h => ?_)
  obtain ⟨_, i, rfl, k⟩ := h
  have tk := L2N.takes_of (X := L2H.cxH (L2N.CX P w) P w K mg base ["_law_value"] "_law_whole" (defScope s__law_whole) f cdv ar ou sh H E pp) rfl rfl rfl rfl
  have hc : L2H.HotC (L2H.cxH (L2N.CX P w) P w K mg base ["_law_value"] "_law_whole" (defScope s__law_whole) f cdv ar ou sh H E pp) := hot_def hot
  refine ⟨_, (pss_one (ps_ret (pe_and (pe_callB (c_isi K) (by rfl) T.b_isinstance (by decide +kernel) (pa_cons (pv 0) (pa_cons (pe_bltn (v := .ty "int") rfl T.b_int (by decide +kernel) rfl) pa_nil))) (pe_one (pe_not (pe_callB (c_isi K) (by rfl) T.b_isinstance (by decide +kernel) (pa_cons (pv 0) (pa_cons (pe_bltn (v := .ty "bool") rfl T.b_bool (by decide +kernel) rfl) pa_nil)))))))), ?_⟩
  try dsimp only [L2H.cxH, cxOf, Cx.suite, Cx.tr, List.map_cons, List.map_nil]
  refine run_start (σ := [some (.int i)]) rfl ?_
  clear tk
  reads_via
  exact k
set_option maxHeartbeats 1000000 in
theorem ok__law_coprime {P : Program} {w : World} {K : PySem.W.Frag} {mg : Str → Option Value} {base : Heap} {c : Ad} {f : Addr} {fd : FuncData} (F : Fun K "_law_coprime" "_law_coprime" s__law_coprime f fd) (T : Txt K mg c)  :
    FnOk P w K mg base (L2N.CX P w) 1 f fd ["_law_one", "_law_other"] (sp__law_coprime c) := by
  refine GG.Fun.okN F sc__law_coprime (fun vs H Q E h => h.1) (fun cdv ar ou sh H vs Q E hr h => ?_)
  obtain ⟨_, a, b, m, rfl, a0, b0, hm, sa, sb, hg, k⟩ := h
  have tk := L2N.takes_of (X := cxOf (L2N.CX P w) P w K mg base ["_law_one", "_law_other", "_law_k", "_law_rest"] "_law_coprime" (defScope s__law_coprime) f cdv ar ou sh H E) rfl rfl rfl rfl
  refine ⟨_, (pss_cons (ps_for (passes_of rfl) rfl (pi_range1 (by rfl) T.b_range (pa_cons pe_int pa_nil)) (pg_name (i := 2) sc__law_coprime.nd rfl (Or.inl rfl))
      (pss_cons (ps_if (pt_cmpR (u_eq K hr.units) (pv 1) pe_int (nomark _))
      (pss_one (ps_ret (pe_cmpR (u_eq K hr.units) (pv 0) pe_int (nomark _))))
      pss_nil)
      (pss_cons (ps_asg (pe_op u_mod (pe_callTy c_int (by rfl) T.b_int (by decide +kernel) (pa_cons (pv 0) pa_nil)) (pv 1)) (pg_name (i := 3) sc__law_coprime.nd rfl (Or.inl rfl)))
      (pss_cons (ps_asg (pv 1) (pg_name (i := 0) sc__law_coprime.nd rfl (Or.inl rfl)))
      (pss_one (ps_asg (pv 3) (pg_name (i := 1) sc__law_coprime.nd rfl (Or.inl rfl))))))))
      (pss_one (ps_ret pe_bl))), ?_⟩
  try dsimp only [L2H.cxH, cxOf, Cx.suite, Cx.tr, List.map_cons, List.map_nil]
  refine run_start (σ := [some (.int a), some (.int b), none, none]) rfl ?_
  clear tk
  reads_via
  have hab : a * b < 2 ^ (m + m) := by
    have h1 := sa.mul sb
    unfold Sz at h1
    have h2 : (a * b).natAbs = a * b := Int.natAbs_of_nonneg (Int.mul_nonneg a0 b0)
    rw [← h2]
    exact_mod_cast h1
  generalize hM : m + m = M at hab
  have hM2 : M ≤ 480 := by omega
  refine f_range0 (fun i σ H' => ∃ x y v2 v3, σ = [some (.int x), some (.int y), v2, v3] ∧ H' = H ∧ 0 ≤ x ∧ 0 ≤ y ∧ Int.gcd x y = 1 ∧ i ≤ M + 2 ∧ ((i = 0 ∧ x * y < 2 ^ M) ∨ (1 ≤ i ∧ y ≤ x ∧ x * y * 2 ^ (i - 1) < 2 ^ M))) ⟨a, b, none, none, rfl, rfl, a0, b0, hg, by omega, .inl ⟨rfl, hab⟩⟩ ?_ ?_
  · rintro i σ H' hi ⟨x, y, v2, v3, rfl, rfl, x0, y0, hg', hi2, hp⟩
    reads_via
    refine br_d (fun c1 => ?_) (fun c1 => ?_)
    · subst c1
      reads_via
      rw [Int.gcd_zero_right] at hg'
      rw [decide_eq_true (by omega)]
      exact k
    · have yp : 0 < y := by omega
      have m0 := Int.emod_nonneg x c1
      have m1 := Int.emod_lt_of_pos x yp
      reads_via
      refine ⟨_, _, _, _, rfl, rfl, y0, m0, by rw [GM.gcd_emod]; exact hg', ?_, ?_⟩
      · rcases hp with ⟨rfl, _⟩ | ⟨h1, h2, h3⟩
        · omega
        · have hxy : 1 ≤ x * y := Int.mul_pos (by omega) yp
          have := GM.pow_lt_of hxy h3
          omega
      · refine .inr ⟨by omega, by omega, ?_⟩
        rw [show i + 1 - 1 = i by omega]
        rcases hp with ⟨rfl, h3⟩ | ⟨h1, h2, h3⟩
        · have h4 : x % y ≤ x := by
            have q1 := Int.mul_ediv_add_emod x y
            have q2 := Int.mul_nonneg y0 (Int.ediv_nonneg x0 y0)
            omega
          have h5 := Int.mul_le_mul_of_nonneg_left h4 y0
          rw [Int.mul_comm y x] at h5
          show y * (x % y) * 1 < _
          rw [Int.mul_one]
          exact Int.lt_of_le_of_lt h5 h3
        · have h4 := GM.euclid_half yp h2
          obtain ⟨j, rfl⟩ : ∃ j, i = j + 1 := ⟨i - 1, by omega⟩
          rw [show j + 1 - 1 = j by omega] at h3
          rw [Int.pow_succ, Int.mul_comm (2 ^ j) 2, ← Int.mul_assoc]
          exact Int.lt_of_le_of_lt (Int.mul_le_mul_of_nonneg_right h4 (Int.le_of_lt (Int.pow_pos (by decide)))) h3
  · rintro σ H' ⟨x, y, v2, v3, rfl, rfl, x0, y0, hg', hi2, hp⟩
    exact absurd hi2 (by omega)
set_option maxHeartbeats 1000000 in
theorem okH__law_coprime {P : Program} {w : World} {K : PySem.W.Frag} {mg : Str → Option Value} {base : Heap} {c : Ad} {f : Addr} {fd : FuncData} (F : Fun K "_law_coprime" "_law_coprime" s__law_coprime f fd) (T : Txt K mg c)  :
    L2H.FnH P w K mg base (L2N.CX P w) 1 f fd ["_law_one", "_law_other"] (sp__law_coprime c) := by
  refine GG.Fun.okH F sc__law_coprime (fun vs H Q E h => h.1) (fun cdv ar ou sh H vs Q E pp hot hr h => ?_)
  obtain ⟨_, a, b, m, rfl, a0, b0, hm, sa, sb, hg, k⟩ := h
  have tk := L2N.takes_of (X := L2H.cxH (L2N.CX P w) P w K mg base ["_law_one", "_law_other", "_law_k", "_law_rest"] "_law_coprime" (defScope s__law_coprime) f cdv ar ou sh H E pp) rfl rfl rfl rfl
  have hc : L2H.HotC (L2H.cxH (L2N.CX P w) P w K mg base ["_law_one", "_law_other", "_law_k", "_law_rest"] "_law_coprime" (defScope s__law_coprime) f cdv ar ou sh H E pp) := hot_def hot
  refine ⟨_, (pss_cons (L2H.ps_forH (passes_of rfl) hc (L2H.pi_range1H (by rfl) T.b_range (pa_cons pe_int pa_nil)) (pg_name (i := 2) sc__law_coprime.nd rfl (Or.inl rfl))
      (pss_cons (ps_if (pt_cmpR (u_eq K hr.units) (pv 1) pe_int (nomark _))
      (pss_one (ps_ret (pe_cmpR (u_eq K hr.units) (pv 0) pe_int (nomark _))))
      pss_nil)
      (pss_cons (ps_asg (pe_op u_mod (pe_callTy c_int (by rfl) T.b_int (by decide +kernel) (pa_cons (pv 0) pa_nil)) (pv 1)) (pg_name (i := 3) sc__law_coprime.nd rfl (Or.inl rfl)))
      (pss_cons (ps_asg (pv 1) (pg_name (i := 0) sc__law_coprime.nd rfl (Or.inl rfl)))
      (pss_one (ps_asg (pv 3) (pg_name (i := 1) sc__law_coprime.nd rfl (Or.inl rfl))))))))
      (pss_one (ps_ret pe_bl))), ?_⟩
  try dsimp only [L2H.cxH, cxOf, Cx.suite, Cx.tr, List.map_cons, List.map_nil]
  refine run_start (σ := [some (.int a), some (.int b), none, none]) rfl ?_
  clear tk
  reads_via
  have hab : a * b < 2 ^ (m + m) := by
    have h1 := sa.mul sb
    unfold Sz at h1
    have h2 : (a * b).natAbs = a * b := Int.natAbs_of_nonneg (Int.mul_nonneg a0 b0)
    rw [← h2]
    exact_mod_cast h1
  generalize hM : m + m = M at hab
  have hM2 : M ≤ 480 := by omega
  refine f_range0 (fun i σ H' => ∃ x y v2 v3, σ = [some (.int x), some (.int y), v2, v3] ∧ H' = H ∧ 0 ≤ x ∧ 0 ≤ y ∧ Int.gcd x y = 1 ∧ i ≤ M + 2 ∧ ((i = 0 ∧ x * y < 2 ^ M) ∨ (1 ≤ i ∧ y ≤ x ∧ x * y * 2 ^ (i - 1) < 2 ^ M))) ⟨a, b, none, none, rfl, rfl, a0, b0, hg, by omega, .inl ⟨rfl, hab⟩⟩ ?_ ?_
  · rintro i σ H' hi ⟨x, y, v2, v3, rfl, rfl, x0, y0, hg', hi2, hp⟩
    reads_via
    refine br_d (fun c1 => ?_) (fun c1 => ?_)
    · subst c1
      reads_via
      rw [Int.gcd_zero_right] at hg'
      rw [decide_eq_true (by omega)]
      exact k
    · have yp : 0 < y := by omega
      have m0 := Int.emod_nonneg x c1
      have m1 := Int.emod_lt_of_pos x yp
      reads_via
      refine ⟨_, _, _, _, rfl, rfl, y0, m0, by rw [GM.gcd_emod]; exact hg', ?_, ?_⟩
      · rcases hp with ⟨rfl, _⟩ | ⟨h1, h2, h3⟩
        · omega
        · have hxy : 1 ≤ x * y := Int.mul_pos (by omega) yp
          have := GM.pow_lt_of hxy h3
          omega
      · refine .inr ⟨by omega, by omega, ?_⟩
        rw [show i + 1 - 1 = i by omega]
        rcases hp with ⟨rfl, h3⟩ | ⟨h1, h2, h3⟩
        · have h4 : x % y ≤ x := by
            have q1 := Int.mul_ediv_add_emod x y
            have q2 := Int.mul_nonneg y0 (Int.ediv_nonneg x0 y0)
            omega
          have h5 := Int.mul_le_mul_of_nonneg_left h4 y0
          rw [Int.mul_comm y x] at h5
          show y * (x % y) * 1 < _
          rw [Int.mul_one]
          exact Int.lt_of_le_of_lt h5 h3
        · have h4 := GM.euclid_half yp h2
          obtain ⟨j, rfl⟩ : ∃ j, i = j + 1 := ⟨i - 1, by omega⟩
          rw [show j + 1 - 1 = j by omega] at h3
          rw [Int.pow_succ, Int.mul_comm (2 ^ j) 2, ← Int.mul_assoc]
          exact Int.lt_of_le_of_lt (Int.mul_le_mul_of_nonneg_right h4 (Int.le_of_lt (Int.pow_pos (by decide)))) h3
  · rintro σ H' ⟨x, y, v2, v3, rfl, rfl, x0, y0, hg', hi2, hp⟩
    exact absurd hi2 (by omega)
set_option maxHeartbeats 1000000 in
theorem ok_Share___init__ {P : Program} {w : World} {K : PySem.W.Frag} {mg : Str → Option Value} {base : Heap} {c : Ad} {f : Addr} {fd : FuncData} (F : FunD K "__init__" "Share.__init__" (defArgs s_Share___init__) (defBody s_Share___init__) (defScope s_Share___init__) [.int 1] [] f fd) (T : Txt K mg c) (F_gcd : Fn P w K mg base "gcd" 1 ["one", "two"] [] (sp_gcd c)) :
    FnOk P w K mg base (L2N.CX P w) 2 f fd ["self", "top", "bottom"] (sp_Share___init__ c) := by
  refine F.ok sc_Share___init__ (fun vs H Q E h => h.1) (fun cdv ar ou sh H vs Q E hr h => ?_)
  obtain ⟨_, x, dx, t, b, m, rfl, hx, hm, ht, hb, kQ, kE⟩ := h
  have hO := T.o_Share
  have hcl := T.o_Share.cl
  have hn1 := T.na_Share_top
  have hn2 := T.na_Share_bottom
  have tk := L2N.takes_of (X := cxOf (L2N.CX P w) P w K mg base ["self", "top", "bottom", "common"] "Share.__init__" (defScope s_Share___init__) f cdv ar ou sh H E) rfl rfl rfl rfl
  refine ⟨_, (pss_cons (ps_if (pt_cmpR (u_eq K hr.units) (pv 2) pe_int (nomark _))
      (pss_one (ps_raiseErr T.e_BadShare hr tk (pa_cons (pe_tup (pa_cons (pv 1) (pa_cons (pv 2) pa_nil))) pa_nil)))
      pss_nil)
      (pss_cons (ps_asg (pe_fn F_gcd (hr.mono (by decide)) (ps_of tk) (pa_cons (pv 1) (pa_cons (pv 2) pa_nil))) (pg_name (i := 3) sc_Share___init__.nd rfl (Or.inl rfl)))
      (pss_cons (ps_if (pt_cmpR u_lt (pv 2) pe_int (nomark _))
      (pss_one (ps_asg (pe_un un_neg (pv 3)) (pg_name (i := 3) sc_Share___init__.nd rfl (Or.inl rfl))))
      pss_nil)
      (pss_cons (ps_fldK K (ps_fld (pv 0) (pe_op u_fdiv (pv 1) (pv 3)) rfl))
      (pss_one (ps_fldK K (ps_fld (pv 0) (pe_op u_fdiv (pv 2) (pv 3)) rfl))))))), ?_⟩
  try dsimp only [L2H.cxH, cxOf, Cx.suite, Cx.tr, List.map_cons, List.map_nil]
  refine run_start (σ := [some (.ref x), some (.int t), some (.int b), none]) rfl ?_
  clear tk
  reads_via
  refine br_d (fun c1 => ?_) (fun c1 => ?_)
  · reads_via
    rename_i u H1 nu e1 h1
    refine v_raise fun d H2 nd e2 h2 => ?_
    exact kE c1 u d H2 (e1.trans e2) (e2.look h1) h2
  · reads_via
    refine ⟨rfl, t, b, rfl, ?_⟩
    reads_via
    refine br_d (fun c2 => ?_) (fun c2 => ?_)
    · obtain ⟨m1, m2, m3, m4, m5, m6, m7⟩ := GM.share_math (t := t) (c := (-(Int.gcd t b : Int))) c1 (.inl ⟨c2, rfl⟩)
      reads_via
      refine v_fdiv ((hb.le m2).cd hm m1) ?_
      reads_via
      refine r_putF (by got_up) hcl hn1 (by show 0 < 1000; decide) (chg fun H1 e1 h1 => ?_)
      reads_via
      refine v_fdiv ((hb.le m2).cd hm m1) ?_
      reads_via
      refine r_putF (by got_up) hcl hn2 (by show 1 < 1000; decide) (chg fun H2 e2 h2 => ?_)
      rw [show putF "bottom" (.int (b.fdiv (-(Int.gcd t b : Int)))) (putF "top" (.int (t.fdiv (-(Int.gcd t b : Int)))) []) = shareF (t.fdiv (-(Int.gcd t b : Int))) (b.fdiv (-(Int.gcd t b : Int))) from putF_ne (by decide +kernel)] at h2
      reads_via
      exact kQ c1 _ _ H2 ⟨m3, m4, ht.le m6, hb.le m7⟩ m5 (e1.trans e2) h2
    · obtain ⟨m1, m2, m3, m4, m5, m6, m7⟩ := GM.share_math (t := t) (c := (Int.gcd t b : Int)) c1 (.inr ⟨by omega, rfl⟩)
      reads_via
      refine v_fdiv ((hb.le m2).cd hm m1) ?_
      reads_via
      refine r_putF (by got_up) hcl hn1 (by show 0 < 1000; decide) (chg fun H1 e1 h1 => ?_)
      reads_via
      refine v_fdiv ((hb.le m2).cd hm m1) ?_
      reads_via
      refine r_putF (by got_up) hcl hn2 (by show 1 < 1000; decide) (chg fun H2 e2 h2 => ?_)
      rw [show putF "bottom" (.int (b.fdiv (Int.gcd t b : Int))) (putF "top" (.int (t.fdiv (Int.gcd t b : Int))) []) = shareF (t.fdiv (Int.gcd t b : Int)) (b.fdiv (Int.gcd t b : Int)) from putF_ne (by decide +kernel)] at h2
      reads_via
      exact kQ c1 _ _ H2 ⟨m3, m4, ht.le m6, hb.le m7⟩ m5 (e1.trans e2) h2
set_option maxHeartbeats 1000000 in
theorem ok__law_number {P : Program} {w : World} {K : PySem.W.Frag} {mg : Str → Option Value} {base : Heap} {c : Ad} {f : Addr} {fd : FuncData} (F : Fun K "_law_number" "_law_number" s__law_number f fd) (T : Txt K mg c) (F__law_draw : Fn P w K mg base "_law_draw" 1 ["_law_pool_here", "_law_many"] [] (sp__law_draw c)) :
    FnOk P w K mg base (L2N.CX P w) 2 f fd ["_law_pool_here", "_law_groups"] (sp__law_number c) := by
  refine GG.Fun.okN F sc__law_number (fun vs H Q E h => h.1) (fun cdv ar ou sh H vs Q E hr h => ?_)
  obtain ⟨_, p, g, rfl, hp, g1, g2, k⟩ := h
  have hg : (1000 : Int) ≤ 1000 ^ g := pow_ge g1
  have tk := L2N.takes_of (X := cxOf (L2N.CX P w) P w K mg base ["_law_pool_here", "_law_groups", "_law_kind", "_law_count", "_law_number_here", "_law_k", "_law_part"] "_law_number" (defScope s__law_number) f cdv ar ou sh H E) rfl rfl rfl rfl
  refine ⟨_, (pss_cons (ps_asg (pe_fn F__law_draw (hr.mono (by decide)) (ps_of tk) (pa_cons (pv 0) (pa_cons pe_int pa_nil))) (pg_name (i := 2) sc__law_number.nd rfl (Or.inl rfl)))
      (pss_cons (ps_if (pt_cmpR (u_eq K hr.units) (pv 2) pe_int (nomark _))
      (pss_one (ps_ret (pe_fn F__law_draw (hr.mono (by decide)) (ps_of tk) (pa_cons (pv 0) (pa_cons pe_int pa_nil)))))
      pss_nil)
      (pss_cons (ps_asg (pv 1) (pg_name (i := 3) sc__law_number.nd rfl (Or.inl rfl)))
      (pss_cons (ps_if (pt_cmpR u_gt (pv 2) pe_int (nomark _))
      (pss_one (ps_asg (pe_op (u_add K) pe_int (pe_fn F__law_draw (hr.mono (by decide)) (ps_of tk) (pa_cons (pv 0) (pa_cons (pv 1) pa_nil)))) (pg_name (i := 3) sc__law_number.nd rfl (Or.inl rfl))))
      pss_nil)
      (pss_cons (ps_asg pe_int (pg_name (i := 4) sc__law_number.nd rfl (Or.inl rfl)))
      (pss_cons (ps_for (passes_of rfl) rfl (pi_range1 (by rfl) T.b_range (pa_cons (pv 3) pa_nil)) (pg_name (i := 5) sc__law_number.nd rfl (Or.inl rfl))
      (pss_cons (ps_asg pe_int (pg_name (i := 6) sc__law_number.nd rfl (Or.inl rfl)))
      (pss_cons (ps_if (pt_cmpR u_gt (pv 2) pe_int (nomark _))
      (pss_one (ps_asg (pe_fn F__law_draw (hr.mono (by decide)) (ps_of tk) (pa_cons (pv 0) (pa_cons pe_int pa_nil))) (pg_name (i := 6) sc__law_number.nd rfl (Or.inl rfl))))
      pss_nil)
      (pss_one (ps_asg (pe_op (u_add K) (pe_op u_mul (pv 4) pe_int) (pv 6)) (pg_name (i := 4) sc__law_number.nd rfl (Or.inl rfl)))))))
      (pss_one (ps_ret (pv 4))))))))), ?_⟩
  try dsimp only [L2H.cxH, cxOf, Cx.suite, Cx.tr, List.map_cons, List.map_nil]
  refine run_start (σ := [some (.ref p), some (.int g), none, none, none, none, none]) rfl ?_
  clear tk
  reads_via
  refine call_draw hp (by decide) (by decide) fun r H1 r0 r1 e1 p1 => ?_
  reads_via
  refine br_d (fun c1 => ?_) (fun c1 => ?_)
  · reads_via
    refine call_draw p1 (by decide) (by decide) fun r2 H2 h3 h4 e2 p2 => ?_
    exact k _ _ h3 (by omega) (e1.trans e2) p2
  reads_via
  refine br_d (fun c2 => ?_) (fun c2 => ?_)
  · reads_via
    refine call_draw p1 (by omega) (by omega) fun r2 H2 h3 h4 e2 p2 => ?_
    obtain ⟨cnt, hc, hcl⟩ : ∃ n : Nat, 1 + r2 = (n : Int) ∧ n ≤ g := ⟨(1 + r2).toNat, by omega, by omega⟩
    reads_via
    rw [hc]
    refine r_rng1 (by omega) (by omega) ?_
    refine f_range0 (fun i σ H' => ∃ v4 v5 v6 N, σ = [some (.ref p), some (.int (g : Int)), some (.int r), some (.int (cnt : Int)), some (.int N), v5, v6] ∧ v4 = (0 : Int) ∧ 0 ≤ N ∧ N < 1000 ^ i ∧ But p H H' ∧ Pool H' p) ⟨0, none, none, 0, rfl, rfl, by decide, by decide, e1.trans e2, p2⟩ ?_ ?_
    · rintro i σ H3 hi ⟨v4, v5, v6, N, rfl, _, n0, n1, e3, p3⟩
      reads_via
      refine br_d (fun _ => ?_) (fun z => absurd c2 z)
      reads_via
      refine call_draw p3 (by decide) (by decide) fun r3 H4 h5 h6 e4 p4 => ?_
      reads_via
      exact ⟨0, _, _, _, rfl, rfl, by omega, by rw [Int.pow_succ]; omega, e3.trans e4, p4⟩
    · rintro σ H3 ⟨v4, v5, v6, N, rfl, _, n0, n1, e3, p3⟩
      reads_via
      exact k _ _ n0 (Int.lt_of_lt_of_le n1 (pow_le (by omega))) e3 p3
  · reads_via
    refine r_rng1 (by omega) (by omega) ?_
    refine f_range0 (fun i σ H' => ∃ v5 v6 N, σ = [some (.ref p), some (.int (g : Int)), some (.int r), some (.int (g : Int)), some (.int N), v5, v6] ∧ 0 ≤ N ∧ N < 1000 ^ i ∧ But p H H' ∧ Pool H' p) ⟨none, none, 0, rfl, by decide, by decide, e1, p1⟩ ?_ ?_
    · rintro i σ H3 hi ⟨v5, v6, N, rfl, n0, n1, e3, p3⟩
      reads_via
      refine br_d (fun z => absurd z c2) (fun _ => ?_)
      reads_via
      exact ⟨_, _, _, rfl, by omega, by rw [Int.pow_succ]; omega, e3, p3⟩
    · rintro σ H3 ⟨v5, v6, N, rfl, n0, n1, e3, p3⟩
      reads_via
      exact k _ _ n0 (Int.lt_of_lt_of_le n1 (pow_le (by omega))) e3 p3
set_option maxHeartbeats 1000000 in
theorem ok__law_is {P : Program} {w : World} {K : PySem.W.Frag} {mg : Str → Option Value} {base : Heap} {c : Ad} {f : Addr} {fd : FuncData} (F : Fun K "_law_is" "_law_is" s__law_is f fd) (T : Txt K mg c) (F__law_coprime : Fn P w K mg base "_law_coprime" 1 ["_law_one", "_law_other"] [] (sp__law_coprime c)) (F__law_whole : Fn P w K mg base "_law_whole" 1 ["_law_value"] [] (sp__law_whole c)) :
    FnOk P w K mg base (L2N.CX P w) 2 f fd ["_law_share", "_law_top", "_law_bottom"] (sp__law_is c) := by
  refine GG.Fun.okN F sc__law_is (fun vs H Q E h => h.1) (fun cdv ar ou sh H vs Q E hr h => ?_)
  obtain ⟨_, x, dx, t, b, T1, B1, m, rfl, hx, hm, lo, st, sb, he, k⟩ := h
  have hB := lo.pos
  have hO := T.o_Share
  have hcl := T.o_Share.cl
  have hn1 := T.na_Share_top
  have hn2 := T.na_Share_bottom
  have tk := L2N.takes_of (X := cxOf (L2N.CX P w) P w K mg base ["_law_share", "_law_top", "_law_bottom"] "_law_is" (defScope s__law_is) f cdv ar ou sh H E) rfl rfl rfl rfl
  refine ⟨_, (pss_cons (ps_if (PW.pt (pw_or (pt_not (pt_tru K (pe_callB (c_isi K) (by rfl) T.b_isinstance (by decide +kernel) (pa_cons (pv 0) (pa_cons (pe_glob (v := .ref c.Share) rfl T.g_Share rfl) pa_nil))) (by intro _; rfl))) (pw_or (pt_not (pt_tru K (pe_fn F__law_whole (hr.mono (by decide)) (ps_of tk) (pa_cons (pe_fldK K (pe_fld (pv 0) rfl)) pa_nil)) (by intro _; rfl))) (pw_or1 (pt_not (pt_tru K (pe_fn F__law_whole (hr.mono (by decide)) (ps_of tk) (pa_cons (pe_fldK K (pe_fld (pv 0) rfl)) pa_nil)) (by intro _; rfl)))))))
      (pss_one (ps_ret pe_bl))
      pss_nil)
      (pss_cons (ps_if (PW.pt (pw_or (pt_cmpR u_lt (pe_fldK K (pe_fld (pv 0) rfl)) pe_int (nomark _)) (pw_or1 (pt_cmpR (u_ne K hr.units) (pe_op u_mul (pe_fldK K (pe_fld (pv 0) rfl)) (pv 2)) (pe_op u_mul (pv 1) (pe_fldK K (pe_fld (pv 0) rfl))) (nomark _)))))
      (pss_one (ps_ret pe_bl))
      pss_nil)
      (pss_one (ps_ret (pe_fn F__law_coprime (hr.mono (by decide)) (ps_of tk) (pa_cons (pe_callB c_abs (by rfl) T.b_abs (by decide +kernel) (pa_cons (pe_fldK K (pe_fld (pv 0) rfl)) pa_nil)) (pa_cons (pe_fldK K (pe_fld (pv 0) rfl)) pa_nil))))))), ?_⟩
  try dsimp only [L2H.cxH, cxOf, Cx.suite, Cx.tr, List.map_cons, List.map_nil]
  refine run_start (σ := [some (.ref x), some (.int t), some (.int b)]) rfl ?_
  clear tk
  reads_via
  refine br_d (fun c1 => absurd c1 (by omega)) (fun c1 => ?_)
  reads_via
  refine v_mul (lo.st.cm sb (by omega)) ?_
  reads_via
  refine v_mul (st.cm lo.sb (by omega)) ?_
  rw [he]
  reads_via
  rw [show (if T1 < 0 then -T1 else T1) = (T1.natAbs : Int) by split <;> omega]
  exact ⟨rfl, _, _, m, rfl, by omega, by omega, hm, lo.st.le (by omega), lo.sb, by unfold Int.gcd; rw [Int.natAbs_natCast]; exact lo.cop, k⟩
set_option maxHeartbeats 1000000 in
theorem okH__law_is {P : Program} {w : World} {K : PySem.W.Frag} {mg : Str → Option Value} {base : Heap} {c : Ad} {f : Addr} {fd : FuncData} (F : Fun K "_law_is" "_law_is" s__law_is f fd) (T : Txt K mg c) (FH__law_coprime : FnS P w K mg base "_law_coprime" 1 ["_law_one", "_law_other"] (sp__law_coprime c)) (FH__law_whole : FnS P w K mg base "_law_whole" 1 ["_law_value"] (sp__law_whole c)) :
    L2H.FnH P w K mg base (L2N.CX P w) 2 f fd ["_law_share", "_law_top", "_law_bottom"] (sp__law_is c) := by
  refine GG.Fun.okH F sc__law_is (fun vs H Q E h => h.1) (fun cdv ar ou sh H vs Q E pp hot hr h => ?_)
  obtain ⟨_, x, dx, t, b, T1, B1, m, rfl, hx, hm, lo, st, sb, he, k⟩ := h
  have hB := lo.pos
  have hO := T.o_Share
  have hcl := T.o_Share.cl
  have hn1 := T.na_Share_top
  have hn2 := T.na_Share_bottom
  have tk := L2N.takes_of (X := L2H.cxH (L2N.CX P w) P w K mg base ["_law_share", "_law_top", "_law_bottom"] "_law_is" (defScope s__law_is) f cdv ar ou sh H E pp) rfl rfl rfl rfl
  have hc : L2H.HotC (L2H.cxH (L2N.CX P w) P w K mg base ["_law_share", "_law_top", "_law_bottom"] "_law_is" (defScope s__law_is) f cdv ar ou sh H E pp) := hot_def hot
  refine ⟨_, (pss_cons (ps_if (PW.pt (pw_or (pt_not (pt_tru K (pe_callB (c_isi K) (by rfl) T.b_isinstance (by decide +kernel) (pa_cons (pv 0) (pa_cons (pe_glob (v := .ref c.Share) rfl T.g_Share rfl) pa_nil))) (by intro _; rfl))) (pw_or (pt_not (pt_tru K (pe_fnH FH__law_whole (hr.mono (by decide)) hc (ps_of tk) (pa_cons (pe_fldK K (pe_fld (pv 0) rfl)) pa_nil)) (by intro _; rfl))) (pw_or1 (pt_not (pt_tru K (pe_fnH FH__law_whole (hr.mono (by decide)) hc (ps_of tk) (pa_cons (pe_fldK K (pe_fld (pv 0) rfl)) pa_nil)) (by intro _; rfl)))))))
      (pss_one (ps_ret pe_bl))
      pss_nil)
      (pss_cons (ps_if (PW.pt (pw_or (pt_cmpR u_lt (pe_fldK K (pe_fld (pv 0) rfl)) pe_int (nomark _)) (pw_or1 (pt_cmpR (u_ne K hr.units) (pe_op u_mul (pe_fldK K (pe_fld (pv 0) rfl)) (pv 2)) (pe_op u_mul (pv 1) (pe_fldK K (pe_fld (pv 0) rfl))) (nomark _)))))
      (pss_one (ps_ret pe_bl))
      pss_nil)
      (pss_one (ps_ret (pe_fnH FH__law_coprime (hr.mono (by decide)) hc (ps_of tk) (pa_cons (pe_callB c_abs (by rfl) T.b_abs (by decide +kernel) (pa_cons (pe_fldK K (pe_fld (pv 0) rfl)) pa_nil)) (pa_cons (pe_fldK K (pe_fld (pv 0) rfl)) pa_nil))))))), ?_⟩
  try dsimp only [L2H.cxH, cxOf, Cx.suite, Cx.tr, List.map_cons, List.map_nil]
  refine run_start (σ := [some (.ref x), some (.int t), some (.int b)]) rfl ?_
  clear tk
  reads_via
  refine br_d (fun c1 => absurd c1 (by omega)) (fun c1 => ?_)
  reads_via
  refine v_mul (lo.st.cm sb (by omega)) ?_
  reads_via
  refine v_mul (st.cm lo.sb (by omega)) ?_
  rw [he]
  reads_via
  rw [show (if T1 < 0 then -T1 else T1) = (T1.natAbs : Int) by split <;> omega]
  exact ⟨rfl, _, _, m, rfl, by omega, by omega, hm, lo.st.le (by omega), lo.sb, by unfold Int.gcd; rw [Int.natAbs_natCast]; exact lo.cop, k⟩
set_option maxHeartbeats 1000000 in
theorem ok__law_signed {P : Program} {w : World} {K : PySem.W.Frag} {mg : Str → Option Value} {base : Heap} {c : Ad} {f : Addr} {fd : FuncData} (F : Fun K "_law_signed" "_law_signed" s__law_signed f fd) (T : Txt K mg c) (F__law_draw : Fn P w K mg base "_law_draw" 1 ["_law_pool_here", "_law_many"] [] (sp__law_draw c)) (F__law_number : Fn P w K mg base "_law_number" 2 ["_law_pool_here", "_law_groups"] [] (sp__law_number c)) :
    FnOk P w K mg base (L2N.CX P w) 3 f fd ["_law_pool_here", "_law_groups"] (sp__law_signed c) := by
  refine GG.Fun.okN F sc__law_signed (fun vs H Q E h => h.1) (fun cdv ar ou sh H vs Q E hr h => ?_)
  obtain ⟨_, p, g, rfl, hp, g1, g2, k⟩ := h
  have tk := L2N.takes_of (X := cxOf (L2N.CX P w) P w K mg base ["_law_pool_here", "_law_groups", "_law_number_here"] "_law_signed" (defScope s__law_signed) f cdv ar ou sh H E) rfl rfl rfl rfl
  refine ⟨_, (pss_cons (ps_asg (pe_fn F__law_number (hr.mono (by decide)) (ps_of tk) (pa_cons (pv 0) (pa_cons (pv 1) pa_nil))) (pg_name (i := 2) sc__law_signed.nd rfl (Or.inl rfl)))
      (pss_one (ps_ret (pe_op u_mul (pv 2) (pe_op u_sub pe_int (pe_op u_mul pe_int (pe_fn F__law_draw (hr.mono (by decide)) (ps_of tk) (pa_cons (pv 0) (pa_cons pe_int pa_nil))))))))), ?_⟩
  try dsimp only [L2H.cxH, cxOf, Cx.suite, Cx.tr, List.map_cons, List.map_nil]
  refine run_start (σ := [some (.ref p), some (.int g), none]) rfl ?_
  clear tk
  reads_via
  refine ⟨rfl, p, g, rfl, hp, g1, g2, fun r H1 r0 r1 e1 p1 => ?_⟩
  reads_via
  refine call_draw p1 (by decide) (by decide) fun r2 H2 h3 h4 e2 p2 => ?_
  reads_via
  have : r2 = 0 ∨ r2 = 1 := by omega
  rcases this with rfl | rfl
  · exact k _ _ (by omega) (by omega) (e1.trans e2) p2
  · exact k _ _ (by omega) (by omega) (e1.trans e2) p2
set_option maxHeartbeats 1000000 in
theorem ok_as_share {P : Program} {w : World} {K : PySem.W.Frag} {mg : Str → Option Value} {base : Heap} {c : Ad} {f : Addr} {fd : FuncData} (F : Fun K "as_share" "as_share" s_as_share f fd) (T : Txt K mg c) (M_Share_1 : Mc P w K mg base "Share" c.Share 2 ["self", "top", "bottom"] [.int 1] (sp_Share___init__ c)) :
    FnOk P w K mg base (L2N.CX P w) 4 f fd ["value"] (sp_as_share c) := by
  refine GG.Fun.okN F sc_as_share (fun vs H Q E h => h.1) (fun cdv ar ou sh H vs Q E hr h => ?_)
  obtain ⟨_, y, t, b, n, rfl, hy, hm, lo, k⟩ := h
  have hO := T.o_Share
  have hcl := T.o_Share.cl
  have hn1 := T.na_Share_top
  have hn2 := T.na_Share_bottom
  have tk := L2N.takes_of (X := cxOf (L2N.CX P w) P w K mg base ["value"] "as_share" (defScope s_as_share) f cdv ar ou sh H E) rfl rfl rfl rfl
  refine ⟨_, (pss_cons (ps_if (pt_tru K (pe_callB (c_isi K) (by rfl) T.b_isinstance (by decide +kernel) (pa_cons (pv 0) (pa_cons (pe_glob (v := .ref c.Share) rfl T.g_Share rfl) pa_nil))) (by intro _; rfl))
      (pss_one (ps_ret (pv 0)))
      pss_nil)
      (pss_one (ps_ret (pe_mk M_Share_1 (hr.mono (by decide)) (ps_of tk) (pa_cons (pv 0) pa_nil))))), ?_⟩
  try dsimp only [L2H.cxH, cxOf, Cx.suite, Cx.tr, List.map_cons, List.map_nil]
  refine run_start (σ := [some (y)]) rfl ?_
  clear tk
  rcases hy with ⟨a, dx, rfl, ha⟩ | ⟨rfl, rfl⟩
  · reads_via
    exact k a dx H Ext.rfl ha
  · reads_via
    refine v_isIC T.ki_int ?_
    reads_via
    refine mk_share_ok n hm (by decide) lo.st lo.sb fun x dx T1 B1 H1 lo1 he e1 hx => ?_
    obtain ⟨rfl, rfl⟩ := GM.share_eq lo1.cop lo.cop lo1.pos lo.pos he
    exact k x dx H1 e1 hx
set_option maxHeartbeats 1000000 in
theorem ok__law_pair {P : Program} {w : World} {K : PySem.W.Frag} {mg : Str → Option Value} {base : Heap} {c : Ad} {f : Addr} {fd : FuncData} (F : Fun K "_law_pair" "_law_pair" s__law_pair f fd) (T : Txt K mg c) (F__law_signed : Fn P w K mg base "_law_signed" 3 ["_law_pool_here", "_law_groups"] [] (sp__law_signed c)) :
    FnOk P w K mg base (L2N.CX P w) 4 f fd ["_law_pool_here", "_law_groups"] (sp__law_pair c) := by
  refine GG.Fun.okN F sc__law_pair (fun vs H Q E h => h.1) (fun cdv ar ou sh H vs Q E hr h => ?_)
  obtain ⟨_, p, g, rfl, hp, hg, k⟩ := h
  have h1g : (1 : Int) < 1000 ^ g := by rcases hg with rfl | rfl <;> decide
  have tk := L2N.takes_of (X := cxOf (L2N.CX P w) P w K mg base ["_law_pool_here", "_law_groups", "_law_top", "_law_bottom"] "_law_pair" (defScope s__law_pair) f cdv ar ou sh H E) rfl rfl rfl rfl
  refine ⟨_, (pss_cons (ps_asg (pe_fn F__law_signed (hr.mono (by decide)) (ps_of tk) (pa_cons (pv 0) (pa_cons (pv 1) pa_nil))) (pg_name (i := 2) sc__law_pair.nd rfl (Or.inl rfl)))
      (pss_cons (ps_asg (pe_fn F__law_signed (hr.mono (by decide)) (ps_of tk) (pa_cons (pv 0) (pa_cons (pv 1) pa_nil))) (pg_name (i := 3) sc__law_pair.nd rfl (Or.inl rfl)))
      (pss_cons (ps_if (pt_cmpR (u_eq K hr.units) (pv 3) pe_int (nomark _))
      (pss_one (ps_asg pe_int (pg_name (i := 3) sc__law_pair.nd rfl (Or.inl rfl))))
      pss_nil)
      (pss_one (ps_ret (pe_tup (pa_cons (pv 2) (pa_cons (pv 3) pa_nil)))))))), ?_⟩
  try dsimp only [L2H.cxH, cxOf, Cx.suite, Cx.tr, List.map_cons, List.map_nil]
  refine run_start (σ := [some (.ref p), some (.int (g : Int)), none, none]) rfl ?_
  clear tk
  reads_via
  refine ⟨rfl, p, g, rfl, hp, by omega, by omega, fun a H2 a0 a1 e2 p2 => ?_⟩
  reads_via
  refine ⟨rfl, p, g, rfl, p2, by omega, by omega, fun b H3 b0 b1 e3 p3 => ?_⟩
  reads_via
  refine br_d (fun c2 => ?_) (fun c2 => ?_)
  · reads_via
    rename_i u H4 nu e4 h4
    exact k u _ _ H4 a0 a1 (by omega) h1g (by decide) ((e2.trans e3).exts e4) (p3.ext e4) h4
  · reads_via
    rename_i u H4 nu e4 h4
    exact k u _ _ H4 a0 a1 b0 b1 c2 ((e2.trans e3).exts e4) (p3.ext e4) h4
set_option maxHeartbeats 1000000 in
theorem ok_Share___sub__ {P : Program} {w : World} {K : PySem.W.Frag} {mg : Str → Option Value} {base : Heap} {c : Ad} {f : Addr} {fd : FuncData} (F : Fun K "__sub__" "Share.__sub__" s_Share___sub__ f fd) (T : Txt K mg c) (F_as_share : Fn P w K mg base "as_share" 4 ["value"] [] (sp_as_share c)) (M_Share : Mc P w K mg base "Share" c.Share 2 ["self", "top", "bottom"] [] (sp_Share___init__ c)) :
    FnOk P w K mg base (L2N.CX P w) 5 f fd ["self", "other"] (sp_Share___sub__ c) := by
  refine GG.Fun.okN F sc_Share___sub__ (fun vs H Q E h => h.1) (fun cdv ar ou sh H vs Q E hr h => ?_)
  obtain ⟨_, a, dx, y, t, b, t', b', n, rfl, ha, hy, hn, lo, lo2, k⟩ := h
  have hO := T.o_Share
  have hcl := T.o_Share.cl
  have hn1 := T.na_Share_top
  have hn2 := T.na_Share_bottom
  have tk := L2N.takes_of (X := cxOf (L2N.CX P w) P w K mg base ["self", "other", "right", "top"] "Share.__sub__" (defScope s_Share___sub__) f cdv ar ou sh H E) rfl rfl rfl rfl
  refine ⟨_, (pss_cons (ps_asg (pe_fn F_as_share (hr.mono (by decide)) (ps_of tk) (pa_cons (pv 1) pa_nil)) (pg_name (i := 2) sc_Share___sub__.nd rfl (Or.inl rfl)))
      (pss_cons (ps_asg (pe_op u_sub (pe_op u_mul (pe_fldK K (pe_fld (pv 0) rfl)) (pe_fldK K (pe_fld (pv 2) rfl))) (pe_op u_mul (pe_fldK K (pe_fld (pv 2) rfl)) (pe_fldK K (pe_fld (pv 0) rfl)))) (pg_name (i := 3) sc_Share___sub__.nd rfl (Or.inl rfl)))
      (pss_one (ps_ret (pe_mk M_Share (hr.mono (by decide)) (ps_of tk) (pa_cons (pv 3) (pa_cons (pe_op u_mul (pe_fldK K (pe_fld (pv 0) rfl)) (pe_fldK K (pe_fld (pv 2) rfl))) pa_nil))))))), ?_⟩
  try dsimp only [L2H.cxH, cxOf, Cx.suite, Cx.tr, List.map_cons, List.map_nil]
  refine run_start (σ := [some (.ref a), some (y), none, none]) rfl ?_
  clear tk
  reads_via
  refine ⟨rfl, y, t', b', n, rfl, hy, by omega, lo2, fun x dx2 H1 e1 hx => ?_⟩
  reads_via
  refine v_mul (lo.st.cm lo2.sb (by omega)) ?_
  reads_via
  refine v_mul (lo2.st.cm lo.sb (by omega)) ?_
  reads_via
  refine v_mul (lo.sb.cm lo2.sb (by omega)) ?_
  reads_via
  refine mk_share_ok (2 * n + 1) (by omega) (Int.mul_ne_zero (by have := lo.pos; omega) (by have := lo2.pos; omega)) (((lo.st.mul lo2.sb).sub (lo2.st.mul lo.sb)).mono (by omega)) ((lo.sb.mul lo2.sb).mono (by omega)) fun x3 dx3 T3 B3 H3 lo3 he3 e3 hx3 => ?_
  exact k x3 dx3 T3 B3 H3 lo3 he3 (e1.trans e3) hx3
set_option maxHeartbeats 1000000 in
theorem ok_Share___mul__ {P : Program} {w : World} {K : PySem.W.Frag} {mg : Str → Option Value} {base : Heap} {c : Ad} {f : Addr} {fd : FuncData} (F : Fun K "__mul__" "Share.__mul__" s_Share___mul__ f fd) (T : Txt K mg c) (F_as_share : Fn P w K mg base "as_share" 4 ["value"] [] (sp_as_share c)) (M_Share : Mc P w K mg base "Share" c.Share 2 ["self", "top", "bottom"] [] (sp_Share___init__ c)) :
    FnOk P w K mg base (L2N.CX P w) 5 f fd ["self", "other"] (sp_Share___mul__ c) := by
  refine GG.Fun.okN F sc_Share___mul__ (fun vs H Q E h => h.1) (fun cdv ar ou sh H vs Q E hr h => ?_)
  obtain ⟨_, a, dx, y, t, b, t', b', n, rfl, ha, hy, hn, lo, lo2, k⟩ := h
  have hO := T.o_Share
  have hcl := T.o_Share.cl
  have hn1 := T.na_Share_top
  have hn2 := T.na_Share_bottom
  have tk := L2N.takes_of (X := cxOf (L2N.CX P w) P w K mg base ["self", "other", "right"] "Share.__mul__" (defScope s_Share___mul__) f cdv ar ou sh H E) rfl rfl rfl rfl
  refine ⟨_, (pss_cons (ps_asg (pe_fn F_as_share (hr.mono (by decide)) (ps_of tk) (pa_cons (pv 1) pa_nil)) (pg_name (i := 2) sc_Share___mul__.nd rfl (Or.inl rfl)))
      (pss_one (ps_ret (pe_mk M_Share (hr.mono (by decide)) (ps_of tk) (pa_cons (pe_op u_mul (pe_fldK K (pe_fld (pv 0) rfl)) (pe_fldK K (pe_fld (pv 2) rfl))) (pa_cons (pe_op u_mul (pe_fldK K (pe_fld (pv 0) rfl)) (pe_fldK K (pe_fld (pv 2) rfl))) pa_nil)))))), ?_⟩
  try dsimp only [L2H.cxH, cxOf, Cx.suite, Cx.tr, List.map_cons, List.map_nil]
  refine run_start (σ := [some (.ref a), some (y), none]) rfl ?_
  clear tk
  reads_via
  refine ⟨rfl, y, t', b', n, rfl, hy, by omega, lo2, fun x dx2 H1 e1 hx => ?_⟩
  reads_via
  refine v_mul (lo.st.cm lo2.st (by omega)) ?_
  reads_via
  refine v_mul (lo.sb.cm lo2.sb (by omega)) ?_
  reads_via
  refine mk_share_ok (2 * n + 1) (by omega) (Int.mul_ne_zero (by have := lo.pos; omega) (by have := lo2.pos; omega)) ((lo.st.mul lo2.st).mono (by omega)) ((lo.sb.mul lo2.sb).mono (by omega)) fun x3 dx3 T3 B3 H3 lo3 he3 e3 hx3 => ?_
  exact k x3 dx3 T3 B3 H3 lo3 he3 (e1.trans e3) hx3
set_option maxHeartbeats 1000000 in
theorem ok_Share___floordiv__ {P : Program} {w : World} {K : PySem.W.Frag} {mg : Str → Option Value} {base : Heap} {c : Ad} {f : Addr} {fd : FuncData} (F : Fun K "__floordiv__" "Share.__floordiv__" s_Share___floordiv__ f fd) (T : Txt K mg c) (F_as_share : Fn P w K mg base "as_share" 4 ["value"] [] (sp_as_share c)) :
    FnOk P w K mg base (L2N.CX P w) 5 f fd ["self", "other"] (sp_Share___floordiv__ c) := by
  refine GG.Fun.okN F sc_Share___floordiv__ (fun vs H Q E h => h.1) (fun cdv ar ou sh H vs Q E hr h => ?_)
  obtain ⟨_, a, dx, y, t, b, t', b', n, rfl, ha, hy, h1, hn, lo, lo2, k, kE⟩ := h
  have pb := lo.pos
  have pb' := lo2.pos
  have hO := T.o_Share
  have hcl := T.o_Share.cl
  have hn1 := T.na_Share_top
  have hn2 := T.na_Share_bottom
  have tk := L2N.takes_of (X := cxOf (L2N.CX P w) P w K mg base ["self", "other", "right"] "Share.__floordiv__" (defScope s_Share___floordiv__) f cdv ar ou sh H E) rfl rfl rfl rfl
  refine ⟨_, (pss_cons (ps_asg (pe_fn F_as_share (hr.mono (by decide)) (ps_of tk) (pa_cons (pv 1) pa_nil)) (pg_name (i := 2) sc_Share___floordiv__.nd rfl (Or.inl rfl)))
      (pss_cons (ps_if (pt_cmpR (u_eq K hr.units) (pe_fldK K (pe_fld (pv 2) rfl)) pe_int (nomark _))
      (pss_one (ps_raiseErr T.e_BadShare hr tk (pa_cons (pv 0) pa_nil)))
      pss_nil)
      (pss_one (ps_ret (pe_op u_fdiv (pe_op u_mul (pe_fldK K (pe_fld (pv 0) rfl)) (pe_fldK K (pe_fld (pv 2) rfl))) (pe_op u_mul (pe_fldK K (pe_fld (pv 0) rfl)) (pe_fldK K (pe_fld (pv 2) rfl)))))))), ?_⟩
  try dsimp only [L2H.cxH, cxOf, Cx.suite, Cx.tr, List.map_cons, List.map_nil]
  refine run_start (σ := [some (.ref a), some (y), none]) rfl ?_
  clear tk
  reads_via
  refine ⟨rfl, y, t', b', n, rfl, hy, by omega, lo2, fun x dx2 H1 e1 hx => ?_⟩
  reads_via
  refine br_d (fun c1 => ?_) (fun c1 => ?_)
  · reads_via
    refine v_raise fun d H2 nd e2 h2 => ?_
    exact kE c1 d H2 (e1.trans e2) h2
  · reads_via
    refine v_mul (lo.st.cm lo2.sb (by omega)) ?_
    reads_via
    refine v_mul (lo.sb.cm lo2.st (by omega)) ?_
    reads_via
    refine v_fdiv ((lo.sb.mul lo2.st).cd (by omega) (Int.mul_ne_zero (by omega) c1)) ?_
    exact k c1 H1 e1
set_option maxHeartbeats 1000000 in
theorem ok_Share_over {P : Program} {w : World} {K : PySem.W.Frag} {mg : Str → Option Value} {base : Heap} {c : Ad} {f : Addr} {fd : FuncData} (F : Fun K "over" "Share.over" s_Share_over f fd) (T : Txt K mg c) (F_as_share : Fn P w K mg base "as_share" 4 ["value"] [] (sp_as_share c)) (M_Share : Mc P w K mg base "Share" c.Share 2 ["self", "top", "bottom"] [] (sp_Share___init__ c)) :
    FnOk P w K mg base (L2N.CX P w) 5 f fd ["self", "other"] (sp_Share_over c) := by
  refine GG.Fun.okN F sc_Share_over (fun vs H Q E h => h.1) (fun cdv ar ou sh H vs Q E hr h => ?_)
  obtain ⟨_, a, dx, y, t, b, t', b', n, rfl, ha, hy, h1, hn, lo, lo2, k, kE⟩ := h
  have pb := lo.pos
  have pb' := lo2.pos
  have hO := T.o_Share
  have hcl := T.o_Share.cl
  have hn1 := T.na_Share_top
  have hn2 := T.na_Share_bottom
  have tk := L2N.takes_of (X := cxOf (L2N.CX P w) P w K mg base ["self", "other", "right"] "Share.over" (defScope s_Share_over) f cdv ar ou sh H E) rfl rfl rfl rfl
  refine ⟨_, (pss_cons (ps_asg (pe_fn F_as_share (hr.mono (by decide)) (ps_of tk) (pa_cons (pv 1) pa_nil)) (pg_name (i := 2) sc_Share_over.nd rfl (Or.inl rfl)))
      (pss_cons (ps_if (pt_cmpR (u_eq K hr.units) (pe_fldK K (pe_fld (pv 2) rfl)) pe_int (nomark _))
      (pss_one (ps_raiseErr T.e_BadShare hr tk (pa_cons (pv 0) pa_nil)))
      pss_nil)
      (pss_one (ps_ret (pe_mk M_Share (hr.mono (by decide)) (ps_of tk) (pa_cons (pe_op u_mul (pe_fldK K (pe_fld (pv 0) rfl)) (pe_fldK K (pe_fld (pv 2) rfl))) (pa_cons (pe_op u_mul (pe_fldK K (pe_fld (pv 0) rfl)) (pe_fldK K (pe_fld (pv 2) rfl))) pa_nil))))))), ?_⟩
  try dsimp only [L2H.cxH, cxOf, Cx.suite, Cx.tr, List.map_cons, List.map_nil]
  refine run_start (σ := [some (.ref a), some (y), none]) rfl ?_
  clear tk
  reads_via
  refine ⟨rfl, y, t', b', n, rfl, hy, by omega, lo2, fun x dx2 H1 e1 hx => ?_⟩
  reads_via
  refine br_d (fun c1 => ?_) (fun c1 => ?_)
  · reads_via
    refine v_raise fun d H2 nd e2 h2 => ?_
    exact kE c1 d H2 (e1.trans e2) h2
  · reads_via
    refine v_mul (lo.st.cm lo2.sb (by omega)) ?_
    reads_via
    refine v_mul (lo.sb.cm lo2.st (by omega)) ?_
    reads_via
    refine mk_share_ok (2 * n) (by omega) (Int.mul_ne_zero (by omega) c1) ((lo.st.mul lo2.sb).mono (by omega)) ((lo.sb.mul lo2.st).mono (by omega)) fun x3 dx3 T3 B3 H3 lo3 he3 e3 hx3 => ?_
    exact k c1 x3 dx3 T3 B3 H3 lo3 he3 (e1.trans e3) hx3
set_option maxHeartbeats 1000000 in
theorem ok_Share___mod__ {P : Program} {w : World} {K : PySem.W.Frag} {mg : Str → Option Value} {base : Heap} {c : Ad} {f : Addr} {fd : FuncData} (F : Fun K "__mod__" "Share.__mod__" s_Share___mod__ f fd) (T : Txt K mg c) (F_as_share : Fn P w K mg base "as_share" 4 ["value"] [] (sp_as_share c)) (S_Share___sub__ : Sm P w K mg base c.Share "__sub__" 5 ["self", "other"] (sp_Share___sub__ c)) (S_Share___mul__ : Sm P w K mg base c.Share "__mul__" 5 ["self", "other"] (sp_Share___mul__ c)) (S_Share___floordiv__ : Sm P w K mg base c.Share "__floordiv__" 5 ["self", "other"] (sp_Share___floordiv__ c)) :
    FnOk P w K mg base (L2N.CX P w) 6 f fd ["self", "other"] (sp_Share___mod__ c) := by
  refine GG.Fun.okN F sc_Share___mod__ (fun vs H Q E h => h.1) (fun cdv ar ou sh H vs Q E hr h => ?_)
  obtain ⟨_, a, dx, y, t, b, t', b', n, rfl, ha, hy, h1, hn, lo, lo2, k, kE⟩ := h
  have pb := lo.pos
  have pb' := lo2.pos
  have hO := T.o_Share
  have hcl := T.o_Share.cl
  have hn1 := T.na_Share_top
  have hn2 := T.na_Share_bottom
  have tk := L2N.takes_of (X := cxOf (L2N.CX P w) P w K mg base ["self", "other", "right"] "Share.__mod__" (defScope s_Share___mod__) f cdv ar ou sh H E) rfl rfl rfl rfl
  refine ⟨_, (pss_cons (ps_asg (pe_fn F_as_share (hr.mono (by decide)) (ps_of tk) (pa_cons (pv 1) pa_nil)) (pg_name (i := 2) sc_Share___mod__.nd rfl (Or.inl rfl)))
      (pss_one (ps_ret (pe_opS (op_own S_Share___sub__ (hr.mono (by decide)) (ps_of tk) T.sf_Share) (pv 0) (pe_opS (op_ownI S_Share___mul__ (hr.mono (by decide)) (ps_of tk) T.sf_Share T.ri_Share___mul__) (pv 2) (pe_opS (op_own S_Share___floordiv__ (hr.mono (by decide)) (ps_of tk) T.sf_Share) (pv 0) (pv 2))))))), ?_⟩
  try dsimp only [L2H.cxH, cxOf, Cx.suite, Cx.tr, List.map_cons, List.map_nil]
  refine run_start (σ := [some (.ref a), some (y), none]) rfl ?_
  clear tk
  reads_via
  refine ⟨rfl, y, t', b', n, rfl, hy, by omega, lo2, fun x dx2 H1 e1 hx => ?_⟩
  reads_via
  refine ⟨rfl, a, dx, .ref x, t, b, t', b', n, rfl, e1.look ha, .inl ⟨x, dx2, rfl, hx⟩, h1, hn, lo, lo2, fun c1 H2 e2 => ?_, fun c1 d H2 e2 h2 => ?_⟩
  · have y0 : b * t' ≠ 0 := Int.mul_ne_zero (by omega) c1
    have sq : Sz (2 * n) ((t * b').fdiv (b * t')) := ((lo.st.mul lo2.sb).le (GM.fdiv_abs y0)).mono (by omega)
    reads_via
    refine ⟨rfl, x, dx2, .int ((t * b').fdiv (b * t')), t', b', (t * b').fdiv (b * t'), 1, 2 * n, rfl, e2.look hx, .inr ⟨rfl, rfl⟩, by omega, lo2.mono (by omega), Low.int sq (by omega), fun x3 dx3 T3 B3 H3 lo3 he3 e3 hx3 => ?_⟩
    reads_via
    have B30 := lo3.pos
    refine ⟨rfl, a, dx, .ref x3, t, b, T3, B3, 2 * (2 * n) + 1, rfl, by got_up, .inl ⟨x3, dx3, rfl, hx3⟩, by omega, lo.mono (by omega), lo3, fun x4 dx4 T4 B4 H4 lo4 he4 e4 hx4 => ?_⟩
    have he5 := GM.mod_he (by omega) (by omega) he3 he4
    rw [← GM.fmod_eq] at he5
    obtain ⟨l1, l2⟩ := GM.low_of lo4.cop lo4.pos (Int.mul_ne_zero (show b ≠ 0 by omega) (show b' ≠ 0 by omega)) he5
    exact k c1 x4 dx4 T4 B4 H4 ⟨lo4.pos, lo4.cop, (((lo.sb.mul lo2.st).le (Nat.le_of_lt (GM.fmod_lt y0))).le l1).mono (by omega), ((lo.sb.mul lo2.sb).le l2).mono (by omega)⟩ he5 (((e1.trans e2).trans e3).trans e4) hx4
  · exact kE c1 d H2 (e1.trans e2) h2
set_option maxHeartbeats 4000000 in
theorem ok__law_quotients {P : Program} {w : World} {K : PySem.W.Frag} {mg : Str → Option Value} {base : Heap} {c : Ad} {f : Addr} {fd : FuncData} (F : Fun K "_law_quotients" "_law_quotients" s__law_quotients f fd) (T : Txt K mg c) (F__law_is : Fn P w K mg base "_law_is" 2 ["_law_share", "_law_top", "_law_bottom"] [] (sp__law_is c)) (F__law_whole : Fn P w K mg base "_law_whole" 1 ["_law_value"] [] (sp__law_whole c)) (S_Share___mod__ : Sm P w K mg base c.Share "__mod__" 6 ["self", "other"] (sp_Share___mod__ c)) (S_Share___floordiv__ : Sm P w K mg base c.Share "__floordiv__" 5 ["self", "other"] (sp_Share___floordiv__ c)) (Mt_Share_over : Mt P w K mg base c.Share "over" 5 ["self", "other"] [] (sp_Share_over c)) :
    FnOk P w K mg base (L2N.CX P w) 7 f fd ["_law_one", "_law_a", "_law_other", "_law_b"] (sp__law_quotients c) := by
  refine GG.Fun.okN F sc__law_quotients (fun vs H Q E h => h.1) (fun cdv ar ou sh H vs Q E hr h => ?_)
  obtain ⟨_, x, dx, y, u, v, a0, a1, b0, b1, t, b, t', b', rfl, hx, hy, hu, hv, s1, s2, s3, s4, lo, lo2, he, he2, z0, z1, t0, k⟩ := h
  have pb := lo.pos
  have pb' := lo2.pos
  have hO := T.o_Share
  have hcl := T.o_Share.cl
  have hn1 := T.na_Share_top
  have hn2 := T.na_Share_bottom
  have tk := L2N.takes_of (X := cxOf (L2N.CX P w) P w K mg base ["_law_one", "_law_a", "_law_other", "_law_b", "_law_top", "_law_bottom", "_law_floor", "_law_rest"] "_law_quotients" (defScope s__law_quotients) f cdv ar ou sh H E) rfl rfl rfl rfl
  refine ⟨_, (pss_cons (ps_asg (pe_op u_mul (pe_ix (u_ix K) (pv 1) pe_int (fun _ _ => rfl)) (pe_ix (u_ix K) (pv 3) pe_int (fun _ _ => rfl))) (pg_name (i := 4) sc__law_quotients.nd rfl (Or.inl rfl)))
      (pss_cons (ps_asg (pe_op u_mul (pe_ix (u_ix K) (pv 1) pe_int (fun _ _ => rfl)) (pe_ix (u_ix K) (pv 3) pe_int (fun _ _ => rfl))) (pg_name (i := 5) sc__law_quotients.nd rfl (Or.inl rfl)))
      (pss_cons (ps_if (pt_cmpR u_lt (pv 5) pe_int (nomark _))
      (pss_cons (ps_asg (pe_un un_neg (pv 4)) (pg_name (i := 4) sc__law_quotients.nd rfl (Or.inl rfl)))
      (pss_one (ps_asg (pe_un un_neg (pv 5)) (pg_name (i := 5) sc__law_quotients.nd rfl (Or.inl rfl)))))
      pss_nil)
      (pss_cons (ps_asg (pe_opS (op_eitherR S_Share___floordiv__ (hr.mono (by decide)) (ps_of tk) T.sf_Share T.ri_Share___floordiv__) (pv 0) (pv 2)) (pg_name (i := 6) sc__law_quotients.nd rfl (Or.inl rfl)))
      (pss_cons (ps_if (PW.pt (pw_or (pt_not (pt_tru K (pe_fn F__law_whole (hr.mono (by decide)) (ps_of tk) (pa_cons (pv 6) pa_nil)) (by intro _; rfl))) (pw_or (pt_cmpR u_gt (pe_op u_mul (pv 6) (pv 5)) (pv 4) (nomark _)) (pw_or1 (pt_cmpR u_le (pe_op u_mul (pe_op (u_add K) (pv 6) pe_int) (pv 5)) (pv 4) (nomark _))))))
      (pss_one (ps_ret pe_bl))
      pss_nil)
      (pss_cons (ps_asg (pe_opS (op_eitherR S_Share___mod__ (hr.mono (by decide)) (ps_of tk) T.sf_Share T.ri_Share___mod__) (pv 0) (pv 2)) (pg_name (i := 7) sc__law_quotients.nd rfl (Or.inl rfl)))
      (pss_cons (ps_if (pt_not (pt_tru K (pe_fn F__law_is (hr.mono (by decide)) (ps_of tk) (pa_cons (pv 7) (pa_cons (pe_op u_sub (pe_op u_mul (pe_ix (u_ix K) (pv 1) pe_int (fun _ _ => rfl)) (pe_ix (u_ix K) (pv 3) pe_int (fun _ _ => rfl))) (pe_op u_mul (pe_op u_mul (pv 6) (pe_ix (u_ix K) (pv 3) pe_int (fun _ _ => rfl))) (pe_ix (u_ix K) (pv 1) pe_int (fun _ _ => rfl)))) (pa_cons (pe_op u_mul (pe_ix (u_ix K) (pv 1) pe_int (fun _ _ => rfl)) (pe_ix (u_ix K) (pv 3) pe_int (fun _ _ => rfl))) pa_nil)))) (by intro _; rfl)))
      (pss_one (ps_ret pe_bl))
      pss_nil)
      (pss_cons (ps_if (PW.pt (pw_or (pt_cmpR u_lt (pe_op u_mul (pe_op u_mul (pe_fldK K (pe_fld (pv 7) rfl)) (pe_ix (u_ix K) (pv 3) pe_int (fun _ _ => rfl))) (pe_ix (u_ix K) (pv 3) pe_int (fun _ _ => rfl))) pe_int (nomark _)) (pw_or1 (pt_cmpR u_ge (pe_callB c_abs (by rfl) T.b_abs (by decide +kernel) (pa_cons (pe_op u_mul (pe_fldK K (pe_fld (pv 7) rfl)) (pe_ix (u_ix K) (pv 3) pe_int (fun _ _ => rfl))) pa_nil)) (pe_callB c_abs (by rfl) T.b_abs (by decide +kernel) (pa_cons (pe_op u_mul (pe_ix (u_ix K) (pv 3) pe_int (fun _ _ => rfl)) (pe_fldK K (pe_fld (pv 7) rfl))) pa_nil)) (nomark _)))))
      (pss_one (ps_ret pe_bl))
      pss_nil)
      (pss_one (ps_ret (pe_fn F__law_is (hr.mono (by decide)) (ps_of tk) (pa_cons (pe_mt Mt_Share_over (hr.mono (by decide)) (ps_of tk) (pv 0) (pa_cons (pv 2) pa_nil)) (pa_cons (pv 4) (pa_cons (pv 5) pa_nil)))))))))))))), ?_⟩
  try dsimp only [L2H.cxH, cxOf, Cx.suite, Cx.tr, List.map_cons, List.map_nil]
  refine run_start (σ := [some (.ref x), some (.ref u), some (y), some (.ref v), none, none, none, none]) rfl ?_
  clear tk
  have hB : b * b' ≠ 0 := Int.mul_ne_zero (by omega) (by omega)
  have y0 : b * t' ≠ 0 := Int.mul_ne_zero (by omega) t0
  have zb : b0 ≠ 0 := by
    intro z
    rw [z, Int.zero_mul] at he2
    rcases Int.mul_eq_zero.mp he2 with h | h
    · exact t0 h
    · exact z1 h
  have z2 : a1 * b0 ≠ 0 := Int.mul_ne_zero z0 zb
  reads_via
  refine v_mul (s1.cm s4 (by decide)) ?_
  reads_via
  refine v_mul (s2.cm s3 (by decide)) ?_
  reads_via
  refine br_d (fun c1 => ?_) (fun c1 => ?_)
  · reads_via
    have stp : Sz 200 (-(a0 * b1)) := (s1.mul s4).neg
    have sbt : Sz 200 (-(a1 * b0)) := (s2.mul s3).neg
    have hrel : -(a0 * b1) * (a1 * b0) = a0 * b1 * -(a1 * b0) := by grind
    generalize htp : -(a0 * b1) = tp at stp hrel ⊢
    generalize hbt : -(a1 * b0) = bt at sbt hrel ⊢

    have hbp : 0 < bt := by omega
    have hft : t * b' * bt = tp * (b * t') := by
      have := GM.over_he he he2
      grind
    obtain ⟨f1, f2⟩ := GM.floor_same y0 hbp hft
    generalize hq : (t * b').fdiv (b * t') = q at f1 f2
    reads_via
    refine e_fdiv hx hy lo lo2 t0 fun H1 e1 => ?_
    rw [hq]
    have sq : Sz 200 q := by rw [← hq]; exact (lo.st.mul lo2.sb).le (GM.fdiv_abs y0)
    have h1q : (q + 1) * bt = q * bt + bt := by grind
    rw [h1q] at f2
    reads_via
    refine v_mul (sq.cm sbt (by decide)) ?_
    reads_via
    rw [decide_eq_false (show ¬ tp < q * bt by omega)]
    reads_via
    refine v_mul ((sq.add ((Sz.one (k := 200)) (by decide))).cm sbt (by decide)) ?_
    rw [h1q]
    reads_via
    rw [decide_eq_false (show ¬ q * bt + bt ≤ tp by omega)]
    reads_via
    refine e_mod (by got_up) (hy.ext e1) lo lo2 t0 fun x2 d2 T2 B2 H2 lo2' h2 e2 q2 => ?_
    reads_via
    refine v_mul (s1.cm s4 (by decide)) ?_
    reads_via
    refine v_mul (sq.cm s3 (by decide)) ?_
    reads_via
    refine v_mul ((sq.mul s3).cm s2 (by decide)) ?_
    reads_via
    refine v_mul (s2.cm s4 (by decide)) ?_
    reads_via
    have h2' := h2
    rw [GM.fmod_eq, hq] at h2'
    refine call_is q2 200 (by decide) lo2' ((((s1.mul s4).mono (show 100 + 100 ≤ 400 by decide)).sub ((sq.mul s3).mul s2)).mono (by decide)) ((s2.mul s4).mono (by decide)) (GM.cross hB h2' (GM.rest_he he he2)) ?_
    have m1 := GM.mod_sign pb pb' lo2'.pos h2 he2 (GM.fmod_mul _ y0)
    have m2 := GM.mod_abs pb pb' lo2'.pos z1 h2 he2 (GM.fmod_lt y0)
    reads_via
    refine v_mul (lo2'.st.cm s3 (by decide)) ?_
    reads_via
    refine v_mul ((lo2'.st.mul s3).cm s4 (by decide)) ?_
    reads_via
    rw [decide_eq_false (show ¬ T2 * b0 * b1 < 0 by omega)]
    reads_via
    refine v_mul (lo2'.st.cm s4 (by decide)) ?_
    reads_via
    refine v_mul (s3.cm lo2'.sb (by decide)) ?_
    reads_via
    rw [show (if T2 * b1 < 0 then -(T2 * b1) else T2 * b1) = ((T2 * b1).natAbs : Int) by split <;> omega, show (if b0 * B2 < 0 then -(b0 * B2) else b0 * B2) = ((b0 * B2).natAbs : Int) by split <;> omega]
    rw [decide_eq_false (show ¬ ((b0 * B2).natAbs : Int) ≤ ((T2 * b1).natAbs : Int) by omega)]
    reads_via
    refine ⟨rfl, x, dx, y, t, b, t', b', 100, rfl, by got_up, (hy.ext e1).ext e2, by decide, by decide, lo, lo2, fun _ x3 d3 T3 B3 H3 lo3 h3 e3 q3 => ?_, fun z => absurd z t0⟩
    reads_via
    refine call_is q3 200 (by decide) lo3 (stp.mono (by decide)) (sbt.mono (by decide)) (GM.cross y0 h3 hft) ?_
    exact k H3 ((e1.trans e2).trans e3)
  · reads_via
    have stp : Sz 200 (a0 * b1) := s1.mul s4
    have sbt : Sz 200 (a1 * b0) := s2.mul s3
    have hrel : a0 * b1 * (a1 * b0) = a0 * b1 * (a1 * b0) := rfl
    obtain ⟨tp, htp⟩ : ∃ tp, tp = a0 * b1 := ⟨_, rfl⟩
    obtain ⟨bt, hbt⟩ : ∃ bt, bt = a1 * b0 := ⟨_, rfl⟩
    rw [← htp, ← hbt]
    rw [← htp] at stp
    rw [← hbt] at sbt

    have hbp : 0 < bt := by omega
    have hft : t * b' * bt = tp * (b * t') := by
      have := GM.over_he he he2
      grind
    obtain ⟨f1, f2⟩ := GM.floor_same y0 hbp hft
    generalize hq : (t * b').fdiv (b * t') = q at f1 f2
    reads_via
    refine e_fdiv hx hy lo lo2 t0 fun H1 e1 => ?_
    rw [hq]
    have sq : Sz 200 q := by rw [← hq]; exact (lo.st.mul lo2.sb).le (GM.fdiv_abs y0)
    have h1q : (q + 1) * bt = q * bt + bt := by grind
    rw [h1q] at f2
    reads_via
    refine v_mul (sq.cm sbt (by decide)) ?_
    reads_via
    rw [decide_eq_false (show ¬ tp < q * bt by omega)]
    reads_via
    refine v_mul ((sq.add ((Sz.one (k := 200)) (by decide))).cm sbt (by decide)) ?_
    rw [h1q]
    reads_via
    rw [decide_eq_false (show ¬ q * bt + bt ≤ tp by omega)]
    reads_via
    refine e_mod (by got_up) (hy.ext e1) lo lo2 t0 fun x2 d2 T2 B2 H2 lo2' h2 e2 q2 => ?_
    reads_via
    refine v_mul (s1.cm s4 (by decide)) ?_
    reads_via
    refine v_mul (sq.cm s3 (by decide)) ?_
    reads_via
    refine v_mul ((sq.mul s3).cm s2 (by decide)) ?_
    reads_via
    refine v_mul (s2.cm s4 (by decide)) ?_
    reads_via
    have h2' := h2
    rw [GM.fmod_eq, hq] at h2'
    refine call_is q2 200 (by decide) lo2' ((((s1.mul s4).mono (show 100 + 100 ≤ 400 by decide)).sub ((sq.mul s3).mul s2)).mono (by decide)) ((s2.mul s4).mono (by decide)) (GM.cross hB h2' (GM.rest_he he he2)) ?_
    have m1 := GM.mod_sign pb pb' lo2'.pos h2 he2 (GM.fmod_mul _ y0)
    have m2 := GM.mod_abs pb pb' lo2'.pos z1 h2 he2 (GM.fmod_lt y0)
    reads_via
    refine v_mul (lo2'.st.cm s3 (by decide)) ?_
    reads_via
    refine v_mul ((lo2'.st.mul s3).cm s4 (by decide)) ?_
    reads_via
    rw [decide_eq_false (show ¬ T2 * b0 * b1 < 0 by omega)]
    reads_via
    refine v_mul (lo2'.st.cm s4 (by decide)) ?_
    reads_via
    refine v_mul (s3.cm lo2'.sb (by decide)) ?_
    reads_via
    rw [show (if T2 * b1 < 0 then -(T2 * b1) else T2 * b1) = ((T2 * b1).natAbs : Int) by split <;> omega, show (if b0 * B2 < 0 then -(b0 * B2) else b0 * B2) = ((b0 * B2).natAbs : Int) by split <;> omega]
    rw [decide_eq_false (show ¬ ((b0 * B2).natAbs : Int) ≤ ((T2 * b1).natAbs : Int) by omega)]
    reads_via
    refine ⟨rfl, x, dx, y, t, b, t', b', 100, rfl, by got_up, (hy.ext e1).ext e2, by decide, by decide, lo, lo2, fun _ x3 d3 T3 B3 H3 lo3 h3 e3 q3 => ?_, fun z => absurd z t0⟩
    reads_via
    refine call_is q3 200 (by decide) lo3 (stp.mono (by decide)) (sbt.mono (by decide)) (GM.cross y0 h3 hft) ?_
    exact k H3 ((e1.trans e2).trans e3)
set_option maxHeartbeats 1000000 in
theorem ok__law_refused {P : Program} {w : World} {K : PySem.W.Frag} {mg : Str → Option Value} {base : Heap} {c : Ad} {f : Addr} {fd : FuncData} (F : Fun K "_law_refused" "_law_refused" s__law_refused f fd) (T : Txt K mg c) (FH__law_is : FnS P w K mg base "_law_is" 2 ["_law_share", "_law_top", "_law_bottom"] (sp__law_is c)) (S_Share___floordiv__ : Sm P w K mg base c.Share "__floordiv__" 5 ["self", "other"] (sp_Share___floordiv__ c)) (S_Share___mod__ : Sm P w K mg base c.Share "__mod__" 6 ["self", "other"] (sp_Share___mod__ c)) (Mt_Share_over : Mt P w K mg base c.Share "over" 5 ["self", "other"] [] (sp_Share_over c)) :
    FnOk P w K mg base (L2N.CX P w) 7 f fd ["_law_one", "_law_a", "_law_nothing", "_law_way"] (sp__law_refused c) := by
  refine GG.Fun.okN F sc__law_refused (fun vs H Q E h => h.1) (fun cdv ar ou sh H vs Q E hr h => ?_)
  obtain ⟨_, x, dx, y, u, a0, a1, t, b, j, rfl, hx, hy, hu, s1, s2, lo, he, hj, k⟩ := h
  have hO := T.o_Share
  have hcl := T.o_Share.cl
  have hn1 := T.na_Share_top
  have hn2 := T.na_Share_bottom
  have tk := L2N.takes_of (X := cxOf (L2N.CX P w) P w K mg base ["_law_one", "_law_a", "_law_nothing", "_law_way", "e", "_law_found"] "_law_refused" (defScope s__law_refused) f cdv ar ou sh H E) rfl rfl rfl rfl
  refine ⟨_, (pss_cons (ps_tryAs (i := 4) sc__law_refused.nd rfl ⟨rfl, by decide, Or.inl T.g_GangError⟩ tk
      (fun W pn xe tk po => (pss_one (ps_if (pt_cmpR (u_eq K hr.units) (pv 3) pe_int (nomark _))
      (pss_one (ps_asg (pe_opS (op_eitherR S_Share___floordiv__ (hr.mono (by decide)) (ps_of tk) T.sf_Share T.ri_Share___floordiv__) (pv 0) (pv 2)) (pg_name (i := 5) sc__law_refused.nd rfl (Or.inl rfl))))
      (pss_one (ps_if (pt_cmpR (u_eq K hr.units) (pv 3) pe_int (nomark _))
      (pss_one (ps_asg (pe_opS (op_eitherR S_Share___mod__ (hr.mono (by decide)) (ps_of tk) T.sf_Share T.ri_Share___mod__) (pv 0) (pv 2)) (pg_name (i := 5) sc__law_refused.nd rfl (Or.inl rfl))))
      (pss_one (ps_asg (pe_mt Mt_Share_over (hr.mono (by decide)) (ps_of tk) (pv 0) (pa_cons (pv 2) pa_nil)) (pg_name (i := 5) sc__law_refused.nd rfl (Or.inl rfl)))))))))
      (fun a oe cls d pn hz hf => (pss_cons (ps_if (PW.pt (pw_or (pt_not (pt_tru K (pe_callB (call_isX K mg hz.zc hf) (by rfl) T.b_isinstance (by decide +kernel) (pa_cons (pv 4) (pa_cons (pe_glob (v := .ref c.BadShare) rfl T.g_BadShare rfl) pa_nil))) (by intro _; rfl))) (pw_or1 (pt_not (pt_tru K (pe_callB (call_isX K mg hz.zc hf) (by rfl) T.b_isinstance (by decide +kernel) (pa_cons (pv 4) (pa_cons (pe_bltn (v := .ty "ValueError") rfl T.b_ValueError (by decide +kernel) rfl) pa_nil))) (by intro _; rfl))))))
      (pss_one (ps_ret pe_bl))
      pss_nil)
      (pss_cons (ps_if (PW.pt (pw_or (pt_tru K (pe_callB (call_isX K mg hz.zc hf) (by rfl) T.b_isinstance (by decide +kernel) (pa_cons (pv 4) (pa_cons (pe_glob (v := .ref c.BadAmounts) rfl T.g_BadAmounts rfl) pa_nil))) (by intro _; rfl)) (pw_or1 (pt_tru K (pe_callB (call_isX K mg hz.zc hf) (by rfl) T.b_isinstance (by decide +kernel) (pa_cons (pv 4) (pa_cons (pe_glob (v := .ref c.Unknown) rfl T.g_Unknown rfl) pa_nil))) (by intro _; rfl)))))
      (pss_one (ps_ret pe_bl))
      pss_nil)
      (pss_one (ps_ret (pe_fnH FH__law_is (room_suite hr (by decide)) (hot_suite hz hf) ps0 (pa_cons (pe_subj K mg hz.zc hf (pv 4)) (pa_cons (pe_ix (u_ix K) (pv 1) pe_int (fun _ _ => rfl)) (pa_cons (pe_ix (u_ix K) (pv 1) pe_int (fun _ _ => rfl)) pa_nil))))))))))
      (pss_one (ps_ret (pe_cmpR (u_eq K hr.units) (pe_lst (pa_cons (pv 5) pa_nil)) (pe_lst pa_nil) (nomark _))))), ?_⟩
  try dsimp only [L2H.cxH, cxOf, Cx.suite, Cx.tr, List.map_cons, List.map_nil]
  refine run_start (σ := [some (.ref x), some (.ref u), some (y), some (.int (j : Int)), none, none]) rfl ?_
  clear tk
  have lo0 : Low 100 0 1 := ⟨by decide, by decide, (by unfold Sz; decide), Sz.one (by decide)⟩
  have fin : ∀ d H1, Ext H H1 → H1 d = some (.xd (subj (.ref x))) → Ext H H1 ∧ H1 d = some (.xd (subj (.ref x))) := fun d H1 a b => ⟨a, b⟩
  reads_via
  refine br_d (fun c1 => ?_) (fun c1 => ?_)
  · reads_via
    refine e_fdiv0 hx hy lo fun d H1 e1 hd => ?_
    refine w_as T.x_BadShare_GangError fun ae oe pn na => ?_
    reads_via
    refine v_isX T.e_BadShare (by got_up) T.k_BadShare_BadShare (.own _) ?_
    reads_via
    refine v_isX T.e_BadShare (by got_up) T.k_BadShare_ValueError (.ty _) ?_
    reads_via
    refine v_isX T.e_BadShare (by got_up) T.k_BadShare_BadAmounts (.own _) ?_
    reads_via
    refine v_isX T.e_BadShare (by got_up) T.k_BadShare_Unknown (.own _) ?_
    reads_via
    refine v_subj T.e_BadShare (by got_up) ?_
    reads_via
    refine call_is (by got_up) 100 (by decide) lo (s1.mono (by decide)) (s2.mono (by decide)) he ?_
    exact k H1 e1

  reads_via
  refine br_d (fun c2 => ?_) (fun c2 => ?_)
  · reads_via
    refine e_mod0 hx hy lo fun d H1 e1 hd => ?_
    refine w_as T.x_BadShare_GangError fun ae oe pn na => ?_
    reads_via
    refine v_isX T.e_BadShare (by got_up) T.k_BadShare_BadShare (.own _) ?_
    reads_via
    refine v_isX T.e_BadShare (by got_up) T.k_BadShare_ValueError (.ty _) ?_
    reads_via
    refine v_isX T.e_BadShare (by got_up) T.k_BadShare_BadAmounts (.own _) ?_
    reads_via
    refine v_isX T.e_BadShare (by got_up) T.k_BadShare_Unknown (.own _) ?_
    reads_via
    refine v_subj T.e_BadShare (by got_up) ?_
    reads_via
    refine call_is (by got_up) 100 (by decide) lo (s1.mono (by decide)) (s2.mono (by decide)) he ?_
    exact k H1 e1

  · reads_via
    refine ⟨rfl, x, dx, y, t, b, 0, 1, 100, rfl, hx, hy, by decide, by decide, lo, lo0, fun z => absurd rfl z, fun _ d H1 e1 hd => ?_⟩
    refine w_as T.x_BadShare_GangError fun ae oe pn na => ?_
    reads_via
    refine v_isX T.e_BadShare (by got_up) T.k_BadShare_BadShare (.own _) ?_
    reads_via
    refine v_isX T.e_BadShare (by got_up) T.k_BadShare_ValueError (.ty _) ?_
    reads_via
    refine v_isX T.e_BadShare (by got_up) T.k_BadShare_BadAmounts (.own _) ?_
    reads_via
    refine v_isX T.e_BadShare (by got_up) T.k_BadShare_Unknown (.own _) ?_
    reads_via
    refine v_subj T.e_BadShare (by got_up) ?_
    reads_via
    refine call_is (by got_up) 100 (by decide) lo (s1.mono (by decide)) (s2.mono (by decide)) he ?_
    exact k H1 e1
set_option maxHeartbeats 4000000 in
theorem ok_law {P : Program} {w : World} {K : PySem.W.Frag} {mg : Str → Option Value} {base : Heap} {c : Ad} {f : Addr} {fd : FuncData} (F : Fun K "law" "law" s_law f fd) (T : Txt K mg c) (F__law_is : Fn P w K mg base "_law_is" 2 ["_law_share", "_law_top", "_law_bottom"] [] (sp__law_is c)) (F__law_refused : Fn P w K mg base "_law_refused" 7 ["_law_one", "_law_a", "_law_nothing", "_law_way"] [] (sp__law_refused c)) (F__law_quotients : Fn P w K mg base "_law_quotients" 7 ["_law_one", "_law_a", "_law_other", "_law_b"] [] (sp__law_quotients c)) (F__law_draw : Fn P w K mg base "_law_draw" 1 ["_law_pool_here", "_law_many"] [] (sp__law_draw c)) (F__law_signed : Fn P w K mg base "_law_signed" 3 ["_law_pool_here", "_law_groups"] [] (sp__law_signed c)) (F__law_pair : Fn P w K mg base "_law_pair" 4 ["_law_pool_here", "_law_groups"] [] (sp__law_pair c)) (F__law_pool : Fn P w K mg base "_law_pool" 1 ["_law_script"] [] (sp__law_pool c)) (M_Share : Mc P w K mg base "Share" c.Share 2 ["self", "top", "bottom"] [] (sp_Share___init__ c)) :
    FnOk P w K mg base (L2N.CX P w) 8 f fd ["_law_script"] (sp_law c) := by
  refine GG.Fun.okN F sc_law (fun vs H Q E h => h.1) (fun cdv ar ou sh H vs Q E hr h => ?_)
  obtain ⟨_, a, ns, rfl, hS, hn, hb, k⟩ := h
  have hO := T.o_Share
  have hcl := T.o_Share.cl
  have hn1 := T.na_Share_top
  have hn2 := T.na_Share_bottom
  have tk := L2N.takes_of (X := cxOf (L2N.CX P w) P w K mg base ["_law_script", "_law_pool_here", "_law_a", "_law_b", "_law_number_here", "_law_one", "_law_other", "_law_nothing", "_law_turn", "_law_way"] "law" (defScope s_law) f cdv ar ou sh H E) rfl rfl rfl rfl
  refine ⟨_, (pss_cons (ps_asg (pe_fn F__law_pool (hr.mono (by decide)) (ps_of tk) (pa_cons (pv 0) pa_nil)) (pg_name (i := 1) sc_law.nd rfl (Or.inl rfl)))
      (pss_cons (ps_asg (pe_fn F__law_pair (hr.mono (by decide)) (ps_of tk) (pa_cons (pv 1) (pa_cons pe_int pa_nil))) (pg_name (i := 2) sc_law.nd rfl (Or.inl rfl)))
      (pss_cons (ps_asg (pe_fn F__law_pair (hr.mono (by decide)) (ps_of tk) (pa_cons (pv 1) (pa_cons pe_int pa_nil))) (pg_name (i := 3) sc_law.nd rfl (Or.inl rfl)))
      (pss_cons (ps_asg (pe_fn F__law_signed (hr.mono (by decide)) (ps_of tk) (pa_cons (pv 1) (pa_cons pe_int pa_nil))) (pg_name (i := 4) sc_law.nd rfl (Or.inl rfl)))
      (pss_cons (ps_if (pt_cmpR (u_eq K hr.units) (pe_fn F__law_draw (hr.mono (by decide)) (ps_of tk) (pa_cons (pv 1) (pa_cons pe_int pa_nil))) pe_int (nomark _))
      (pss_cons (ps_asg (pe_fn F__law_pair (hr.mono (by decide)) (ps_of tk) (pa_cons (pv 1) (pa_cons pe_int pa_nil))) (pg_name (i := 3) sc_law.nd rfl (Or.inl rfl)))
      (pss_one (ps_asg (pe_tup (pa_cons (pe_op u_mul (pe_ix (u_ix K) (pv 3) pe_int (fun _ _ => rfl)) (pe_fn F__law_signed (hr.mono (by decide)) (ps_of tk) (pa_cons (pv 1) (pa_cons pe_int pa_nil)))) (pa_cons (pe_ix (u_ix K) (pv 3) pe_int (fun _ _ => rfl)) pa_nil))) (pg_name (i := 2) sc_law.nd rfl (Or.inl rfl)))))
      pss_nil)
      (pss_cons (ps_if (pt_cmpR (u_eq K hr.units) (pe_ix (u_ix K) (pv 3) pe_int (fun _ _ => rfl)) pe_int (nomark _))
      (pss_one (ps_asg (pe_tup (pa_cons pe_int (pa_cons (pe_ix (u_ix K) (pv 3) pe_int (fun _ _ => rfl)) pa_nil))) (pg_name (i := 3) sc_law.nd rfl (Or.inl rfl))))
      pss_nil)
      (pss_cons (ps_if (pt_cmpR (u_eq K hr.units) (pv 4) pe_int (nomark _))
      (pss_one (ps_asg (pe_un un_neg pe_int) (pg_name (i := 4) sc_law.nd rfl (Or.inl rfl))))
      pss_nil)
      (pss_cons (ps_asg (pe_mk M_Share (hr.mono (by decide)) (ps_of tk) (pa_cons (pe_ix (u_ix K) (pv 2) pe_int (fun _ _ => rfl)) (pa_cons (pe_ix (u_ix K) (pv 2) pe_int (fun _ _ => rfl)) pa_nil))) (pg_name (i := 5) sc_law.nd rfl (Or.inl rfl)))
      (pss_cons (ps_asg (pe_mk M_Share (hr.mono (by decide)) (ps_of tk) (pa_cons (pe_ix (u_ix K) (pv 3) pe_int (fun _ _ => rfl)) (pa_cons (pe_ix (u_ix K) (pv 3) pe_int (fun _ _ => rfl)) pa_nil))) (pg_name (i := 6) sc_law.nd rfl (Or.inl rfl)))
      (pss_cons (ps_asg (pe_mk M_Share (hr.mono (by decide)) (ps_of tk) (pa_cons pe_int (pa_cons (pe_ix (u_ix K) (pv 3) pe_int (fun _ _ => rfl)) pa_nil))) (pg_name (i := 7) sc_law.nd rfl (Or.inl rfl)))
      (pss_cons (ps_for (passes_of rfl) rfl (pi_range1 (by rfl) T.b_range (pa_cons pe_int pa_nil)) (pg_name (i := 8) sc_law.nd rfl (Or.inl rfl))
      (pss_cons (ps_if (PW.pt (pw_or (pt_not (pt_tru K (pe_fn F__law_quotients (hr.mono (by decide)) (ps_of tk) (pa_cons (pv 5) (pa_cons (pv 2) (pa_cons (pv 6) (pa_cons (pv 3) pa_nil))))) (by intro _; rfl))) (pw_or1 (pt_not (pt_tru K (pe_fn F__law_quotients (hr.mono (by decide)) (ps_of tk) (pa_cons (pv 5) (pa_cons (pv 2) (pa_cons (pv 4) (pa_cons (pe_tup (pa_cons (pv 4) (pa_cons pe_int pa_nil))) pa_nil))))) (by intro _; rfl))))))
      (pss_one (ps_ret pe_bl))
      pss_nil)
      (pss_cons (ps_if (pt_not (pt_tru K (pe_fn F__law_quotients (hr.mono (by decide)) (ps_of tk) (pa_cons (pv 6) (pa_cons (pv 3) (pa_cons (pv 6) (pa_cons (pv 3) pa_nil))))) (by intro _; rfl)))
      (pss_one (ps_ret pe_bl))
      pss_nil)
      (pss_one (ps_for (passes_of rfl) rfl (pi_range1 (by rfl) T.b_range (pa_cons pe_int pa_nil)) (pg_name (i := 9) sc_law.nd rfl (Or.inl rfl))
      (pss_one (ps_if (PW.pt (pw_or (pt_not (pt_tru K (pe_fn F__law_refused (hr.mono (by decide)) (ps_of tk) (pa_cons (pv 5) (pa_cons (pv 2) (pa_cons (pv 7) (pa_cons (pv 9) pa_nil))))) (by intro _; rfl))) (pw_or1 (pt_not (pt_tru K (pe_fn F__law_refused (hr.mono (by decide)) (ps_of tk) (pa_cons (pv 6) (pa_cons (pv 3) (pa_cons pe_int (pa_cons (pv 9) pa_nil))))) (by intro _; rfl))))))
      (pss_one (ps_ret pe_bl))
      pss_nil)))))))
      (pss_one (ps_ret (pe_and (pe_fn F__law_is (hr.mono (by decide)) (ps_of tk) (pa_cons (pv 5) (pa_cons (pe_ix (u_ix K) (pv 2) pe_int (fun _ _ => rfl)) (pa_cons (pe_ix (u_ix K) (pv 2) pe_int (fun _ _ => rfl)) pa_nil)))) (pe_and (pe_fn F__law_is (hr.mono (by decide)) (ps_of tk) (pa_cons (pv 6) (pa_cons (pe_ix (u_ix K) (pv 3) pe_int (fun _ _ => rfl)) (pa_cons (pe_ix (u_ix K) (pv 3) pe_int (fun _ _ => rfl)) pa_nil)))) (pe_one (pe_fn F__law_is (hr.mono (by decide)) (ps_of tk) (pa_cons (pv 7) (pa_cons pe_int (pa_cons pe_int pa_nil)))))))))))))))))))), ?_⟩
  try dsimp only [L2H.cxH, cxOf, Cx.suite, Cx.tr, List.map_cons, List.map_nil]
  refine run_start (σ := [some (.ref a), none, none, none, none, none, none, none, none, none]) rfl ?_
  clear tk
  reads_via
  refine call_pool hS hn hb fun p H1 np e1 p1 => ?_
  reads_via
  refine ⟨rfl, p, 10, rfl, p1, .inr rfl, fun u a0 a1 H2 g0 g1 g2 g3 z1 b2 p2 hu => ?_⟩
  reads_via
  refine ⟨rfl, p, 10, rfl, p2, .inr rfl, fun v b0 b1 H3 g4 g5 g6 g7 z2 b3 p3 hv => ?_⟩
  obtain ⟨_, hp2⟩ := p2.lst
  replace hu := b3.lookK hp2 hu (by intro z; cases z)
  reads_via
  refine ⟨rfl, p, 10, rfl, p3, by decide, by decide, fun i H4 i0 i1 b4 p4 => ?_⟩
  obtain ⟨_, hp3⟩ := p3.lst
  replace hu := b4.lookK hp3 hu (by intro z; cases z)
  replace hv := b4.lookK hp3 hv (by intro z; cases z)
  have si : Sz 100 i := .of ⟨i0, i1⟩
  o_reads
  refine run_cut (fun σ' H' => ∃ u v a0 a1 b0 b1, σ' = [some (.ref a), some (.ref p), some (.ref u), some (.ref v), some (.int i), none, none, none, none, none] ∧ H' u = some (.tup [.int a0, .int a1]) ∧ H' v = some (.tup [.int b0, .int b1]) ∧ Sz 100 a0 ∧ Sz 100 a1 ∧ Sz 100 b0 ∧ Sz 100 b1 ∧ a1 ≠ 0 ∧ b1 ≠ 0) (fun nx' hn => ?_) ?_
  · reads_via
    refine call_draw p4 (by decide) (by decide) fun r H5 r0 r1 b5 p5 => ?_
    obtain ⟨_, hp4⟩ := p4.lst
    replace hu := b5.lookK hp4 hu (by intro z; cases z)
    replace hv := b5.lookK hp4 hv (by intro z; cases z)
    reads_via
    refine br_d (fun c1 => ?_) (fun c1 => ?_)
    · reads_via
      refine ⟨rfl, p, 5, rfl, p5, .inl rfl, fun v b0 b1 H6 k4 k5 k6 k7 z2 b6 p6 hv => ?_⟩
      reads_via
      refine ⟨rfl, p, 5, rfl, p6, by decide, by decide, fun j H7 j0 j1 b7 p7 => ?_⟩
      obtain ⟨_, hp6⟩ := p6.lst
      replace hv := b7.lookK hp6 hv (by intro z; cases z)
      reads_via
      rename_i w H8 nw e8 hw
      have s5 := GM.abs_lt_mul ⟨k4, k5⟩ ⟨j0, j1⟩
      exact hn _ _ ⟨w, v, _, _, b0, b1, rfl, hw, e8.look hv, .of s5, .of ⟨by omega, by omega⟩, .of ⟨by omega, by omega⟩, .of ⟨by omega, by omega⟩, z2, z2⟩
    · reads_via
      exact hn _ _ ⟨u, v, a0, a1, b0, b1, rfl, hu, hv, .of ⟨g0, g1⟩, .of ⟨g2, g3⟩, .of ⟨g4, g5⟩, .of ⟨g6, g7⟩, z1, z2⟩
  clear hu hv z1 z2 g0 g1 g2 g3 g4 g5 g6 g7 b2 b3 b4 p1 p2 p3 p4 hp2 hp3 a0 a1 b0 b1 u v
  rintro σ H5 ⟨u, v, a0, a1, b0, b1, rfl, hu, hv, s0, s1, s2, s3, z1, z2⟩
  o_reads
  refine run_cut (fun σ' H' => ∃ v b0, σ' = [some (.ref a), some (.ref p), some (.ref u), some (.ref v), some (.int i), none, none, none, none, none] ∧ H' u = some (.tup [.int a0, .int a1]) ∧ H' v = some (.tup [.int b0, .int b1]) ∧ Sz 100 b0 ∧ b0 ≠ 0) (fun nx' hn => ?_) ?_
  · reads_via
    refine br_d (fun c1 => ?_) (fun c1 => ?_)
    · reads_via
      rename_i w H6 nw e6 hw
      exact hn _ _ ⟨w, 1, rfl, e6.look hu, hw, Sz.one (by decide), by decide⟩
    · reads_via
      exact hn _ _ ⟨v, b0, rfl, hu, hv, s2, c1⟩
  clear hu hv s2 b0 v
  rintro σ H6 ⟨v, b0, rfl, hu, hv, s2, zb⟩
  o_reads
  refine run_cut (fun σ' H' => ∃ j, σ' = [some (.ref a), some (.ref p), some (.ref u), some (.ref v), some (.int j), none, none, none, none, none] ∧ H' = H6 ∧ Sz 100 j ∧ j ≠ 0) (fun nx' hn => ?_) ?_
  · reads_via
    refine br_d (fun c1 => ?_) (fun c1 => ?_)
    · reads_via
      exact hn _ _ ⟨-1, rfl, rfl, (Sz.one (by decide)).neg, by decide⟩
    · reads_via
      exact hn _ _ ⟨i, rfl, rfl, si, c1⟩
  clear si i0 i1 i
  rintro σ H7 ⟨i, rfl, rfl, si, zi⟩
  reads_via
  refine mk_share_ok 100 (by decide) z1 s0 s1 fun x dx t b H8 lo he e8 hx => ?_
  reads_via
  refine mk_share_ok 100 (by decide) z2 s2 s3 fun y dy t' b' H9 lo2 he2 e9 hy => ?_
  reads_via
  refine mk_share_ok 100 (by decide) z2 low0.st s3 fun q dq t3 b3 H10 lo3 he3 e10 hq => ?_
  obtain ⟨rfl, rfl⟩ : t3 = 0 ∧ b3 = 1 := GM.share_eq lo3.cop (by decide) lo3.pos (by decide) (by rw [Int.zero_mul] at he3 ⊢; rcases Int.mul_eq_zero.mp he3 with h | h; rw [h]; rfl; exact absurd h z2)
  have t0 : t' ≠ 0 := by
    intro z
    rw [z, Int.zero_mul] at he2
    rcases Int.mul_eq_zero.mp he2.symm with h | h
    · exact zb h
    · have := lo2.pos; omega
  reads_via
  replace hu : H10 u = some (.tup [.int a0, .int a1]) := by got_up
  replace hv : H10 v = some (.tup [.int b0, .int b1]) := by got_up
  replace hx : H10 x = some (.ins c.Share dx (shareF t b)) := by got_up
  replace hy : H10 y = some (.ins c.Share dy (shareF t' b')) := by got_up
  clear e8 e9 e10
  have i1 : IsSh c.Share H10 (.ref x) t b := .inl ⟨x, dx, rfl, hx⟩
  have i2 : IsSh c.Share H10 (.ref y) t' b' := .inl ⟨y, dy, rfl, hy⟩
  have i3 : IsSh c.Share H10 (.ref q) 0 1 := .inl ⟨q, dq, rfl, hq⟩
  refine f_range0 (fun m σ H' => ∃ w8 w9, σ = [some (.ref a), some (.ref p), some (.ref u), some (.ref v), some (.int i), some (.ref x), some (.ref y), some (.ref q), w8, w9] ∧ Ext H10 H') ⟨_, _, rfl, Ext.rfl⟩ ?_ ?_
  · rintro m σ H11 hm ⟨w8, w9, rfl, e11⟩
    reads_via
    refine ⟨rfl, x, dx, .ref y, u, v, a0, a1, b0, b1, t, b, t', b', rfl, by got_up, i2.ext e11, by got_up, by got_up, s0, s1, s2, s3, lo, lo2, he, he2, z1, z2, t0, fun H12 e12 => ?_⟩
    reads_via
    rename_i n H13 nn e13 hn13
    have e14 := (e11.trans e12).trans e13
    clear e11 e12 e13
    refine ⟨rfl, x, dx, .int i, u, n, a0, a1, i, 1, t, b, i, 1, rfl, by got_up, .inr ⟨rfl, rfl⟩, by got_up, hn13, s0, s1, si, Sz.one (by decide), lo, Low.int si (by decide), he, rfl, z1, by decide, zi, fun H15 e15 => ?_⟩
    reads_via
    refine ⟨rfl, y, dy, .ref y, v, v, b0, b1, b0, b1, t', b', t', b', rfl, by got_up, i2.ext (e14.trans e15), by got_up, by got_up, s2, s3, s2, s3, lo2, lo2, he2, he2, z2, z2, t0, fun H16 e16 => ?_⟩
    reads_via
    have e17 := (e14.trans e15).trans e16
    clear e14 e15 e16
    refine f_range0 (fun j σ H' => ∃ w9, σ = [some (.ref a), some (.ref p), some (.ref u), some (.ref v), some (.int i), some (.ref x), some (.ref y), some (.ref q), some (.int (m : Int)), w9] ∧ Ext H10 H') ⟨_, rfl, e17⟩ ?_ ?_
    · rintro j σ H18 hj ⟨w9, rfl, e18⟩
      reads_via
      refine ⟨rfl, x, dx, .ref q, u, a0, a1, t, b, j, rfl, by got_up, i3.ext e18, by got_up, s0, s1, lo, he, hj, fun H19 e19 => ?_⟩
      reads_via
      refine ⟨rfl, y, dy, .int 0, v, b0, b1, t', b', j, rfl, by got_up, .inr ⟨rfl, rfl⟩, by got_up, s2, s3, lo2, he2, hj, fun H20 e20 => ?_⟩
      reads_via
      exact ⟨_, rfl, (e18.trans e19).trans e20⟩
    · rintro σ H18 ⟨w9, rfl, e18⟩
      exact ⟨_, _, rfl, e18⟩
  rintro σ H11 ⟨w8, w9, rfl, e11⟩
  reads_via
  refine call_is (by got_up) 100 (by decide) lo (s0.mono (by decide)) (s1.mono (by decide)) he ?_
  reads_via
  refine call_is (by got_up) 100 (by decide) lo2 (s2.mono (by decide)) (s3.mono (by decide)) he2 ?_
  reads_via
  refine call_is (by got_up) 100 (by decide) low0 (low0.st.mono (by decide)) (low0.sb.mono (by decide)) (by decide) ?_
  exact k _
end K02
namespace K02
open PySem L2 GG PyProof.Rows
abbrev s_E : Stmt := (inClass (top 2) 0)
theorem all_mk {l : PySem.W.OpenLaw} {w : World} {K : PySem.W.Frag} {h : Heap} {mg : Str → Option Value} {fa : Addr} {A_GangError A_BadShare A_BadAmounts A_Unknown A_Share A_fE : Addr} (X : K.In h) (G : h.Ns mainGlobals mg) (hfa : mg "law" = some (.ref fa))
    {fo_Share_mul ro_Share_mul : Option Value}
    {fr_Share_mul : Addr}
    {fo_Share_floordiv ro_Share_floordiv : Option Value}
    {fo_Share_mod ro_Share_mod : Option Value}
    {oc_E dc_E pm_E cd_E ct_E : Value} {od_E an_E : Option Addr} {sl_E : Array (Option Value)}
    {nm_BadShare q_BadShare : Str} {N_BadShare : Addr} {bs_BadShare : List Value} {sn_BadShare : List Str} {sub_BadShare : List Value} {ab_BadShare : Bool} {col_BadShare : Option Bool} {dd_BadShare : Option Addr} {m0_BadShare m1_BadShare m2_BadShare m3_BadShare m5_BadShare : Option Value}
    {f__law_draw : Addr} {od__law_draw an__law_draw : Option Addr} {sl__law_draw : Array (Option Value)} {oc__law_draw kV__law_draw dc__law_draw pm__law_draw cd__law_draw ct__law_draw : Value}
    {f__law_pool : Addr} {od__law_pool an__law_pool : Option Addr} {sl__law_pool : Array (Option Value)} {oc__law_pool kV__law_pool dc__law_pool pm__law_pool cd__law_pool ct__law_pool : Value}
    {f_gcd : Addr} {od_gcd an_gcd : Option Addr} {sl_gcd : Array (Option Value)} {oc_gcd kV_gcd dc_gcd pm_gcd cd_gcd ct_gcd : Value}
    {f_Share___init__ : Addr} {od_Share___init__ an_Share___init__ : Option Addr} {sl_Share___init__ : Array (Option Value)} {oc_Share___init__ kV_Share___init__ dc_Share___init__ pm_Share___init__ cd_Share___init__ ct_Share___init__ : Value}
    {T_Share___init__ : Addr} {ocT_Share___init__ uT_Share___init__ : Value} {odT_Share___init__ : Option Addr} {nT_Share___init__ : Nat} {slT_Share___init__ : Array (Option Value)}
    {f_as_share : Addr} {od_as_share an_as_share : Option Addr} {sl_as_share : Array (Option Value)} {oc_as_share kV_as_share dc_as_share pm_as_share cd_as_share ct_as_share : Value}
    {f_Share___sub__ : Addr} {od_Share___sub__ an_Share___sub__ : Option Addr} {sl_Share___sub__ : Array (Option Value)} {oc_Share___sub__ kV_Share___sub__ dc_Share___sub__ pm_Share___sub__ cd_Share___sub__ ct_Share___sub__ : Value}
    {f_Share___mul__ : Addr} {od_Share___mul__ an_Share___mul__ : Option Addr} {sl_Share___mul__ : Array (Option Value)} {oc_Share___mul__ kV_Share___mul__ dc_Share___mul__ pm_Share___mul__ cd_Share___mul__ ct_Share___mul__ : Value}
    {f_Share___floordiv__ : Addr} {od_Share___floordiv__ an_Share___floordiv__ : Option Addr} {sl_Share___floordiv__ : Array (Option Value)} {oc_Share___floordiv__ kV_Share___floordiv__ dc_Share___floordiv__ pm_Share___floordiv__ cd_Share___floordiv__ ct_Share___floordiv__ : Value}
    {f_Share_over : Addr} {od_Share_over an_Share_over : Option Addr} {sl_Share_over : Array (Option Value)} {oc_Share_over kV_Share_over dc_Share_over pm_Share_over cd_Share_over ct_Share_over : Value}
    {f_Share___mod__ : Addr} {od_Share___mod__ an_Share___mod__ : Option Addr} {sl_Share___mod__ : Array (Option Value)} {oc_Share___mod__ kV_Share___mod__ dc_Share___mod__ pm_Share___mod__ cd_Share___mod__ ct_Share___mod__ : Value}
    {f__law_number : Addr} {od__law_number an__law_number : Option Addr} {sl__law_number : Array (Option Value)} {oc__law_number kV__law_number dc__law_number pm__law_number cd__law_number ct__law_number : Value}
    {f__law_signed : Addr} {od__law_signed an__law_signed : Option Addr} {sl__law_signed : Array (Option Value)} {oc__law_signed kV__law_signed dc__law_signed pm__law_signed cd__law_signed ct__law_signed : Value}
    {f__law_pair : Addr} {od__law_pair an__law_pair : Option Addr} {sl__law_pair : Array (Option Value)} {oc__law_pair kV__law_pair dc__law_pair pm__law_pair cd__law_pair ct__law_pair : Value}
    {f__law_whole : Addr} {od__law_whole an__law_whole : Option Addr} {sl__law_whole : Array (Option Value)} {oc__law_whole kV__law_whole dc__law_whole pm__law_whole cd__law_whole ct__law_whole : Value}
    {f__law_coprime : Addr} {od__law_coprime an__law_coprime : Option Addr} {sl__law_coprime : Array (Option Value)} {oc__law_coprime kV__law_coprime dc__law_coprime pm__law_coprime cd__law_coprime ct__law_coprime : Value}
    {f__law_is : Addr} {od__law_is an__law_is : Option Addr} {sl__law_is : Array (Option Value)} {oc__law_is kV__law_is dc__law_is pm__law_is cd__law_is ct__law_is : Value}
    {f__law_quotients : Addr} {od__law_quotients an__law_quotients : Option Addr} {sl__law_quotients : Array (Option Value)} {oc__law_quotients kV__law_quotients dc__law_quotients pm__law_quotients cd__law_quotients ct__law_quotients : Value}
    {f__law_refused : Addr} {od__law_refused an__law_refused : Option Addr} {sl__law_refused : Array (Option Value)} {oc__law_refused kV__law_refused dc__law_refused pm__law_refused cd__law_refused ct__law_refused : Value}
    {f_law : Addr} {od_law an_law : Option Addr} {sl_law : Array (Option Value)} {oc_law kV_law dc_law pm_law cd_law ct_law : Value}
    (z_ValueError : PySem.W.nsIn K mainGlobals "ValueError" = some none)
    (z_len : PySem.W.nsIn K mainGlobals "len" = some none)
    (z_int : PySem.W.nsIn K mainGlobals "int" = some none)
    (z_abs : PySem.W.nsIn K mainGlobals "abs" = some none)
    (z_isinstance : PySem.W.nsIn K mainGlobals "isinstance" = some none)
    (z_bool : PySem.W.nsIn K mainGlobals "bool" = some none)
    (z_range : PySem.W.nsIn K mainGlobals "range" = some none)
    (a_GangError : PySem.W.nsIn K mainGlobals "GangError" = some (some (.ref A_GangError)))
    (a_BadShare : PySem.W.nsIn K mainGlobals "BadShare" = some (some (.ref A_BadShare)))
    (a_BadAmounts : PySem.W.nsIn K mainGlobals "BadAmounts" = some (some (.ref A_BadAmounts)))
    (a_Unknown : PySem.W.nsIn K mainGlobals "Unknown" = some (some (.ref A_Unknown)))
    (a_Share : PySem.W.nsIn K mainGlobals "Share" = some (some (.ref A_Share)))
    (hn0 : PySem.W.specialIn K (.builtin "object.__class__") "__get__" = some (some (.builtin "getset_descriptor.__get__")))
    (ht0 : PySem.W.takesIn K (.builtin "object.__class__") = some true)
    (pg_Share : PySem.W.plainGet K A_Share Str.empty = true)
    (hd_Share : PySem.W.hasDictIn K A_Share = true)
    (po_Share : PySem.W.plainOver K A_Share = true)
    (sa_Share : PySem.W.findIn K (.ref A_Share) "__setattr__" = some (some (.builtin "object.__setattr__")))
    (mk_Share : PySem.W.makesIn K A_Share = true)
    (kc_Share : PySem.W.keepIn K (.ref A_Share) = true)
    (sf_Share : PySem.W.selfFirst K A_Share = true)
    (ha_Share : PySem.W.findIn K (.ref A_Share) "__class__" = some (some (.builtin "object.__class__")))
    (hm_Share : PySem.W.mroIn K A_Share (.type "object") = some true)
    (na_Share_top : PySem.W.findIn K (.ref A_Share) "top" = some none)
    (na_Share_bottom : PySem.W.findIn K (.ref A_Share) "bottom" = some none)
    (ei1_Share : PySem.W.subIn K (.type "int") (.ref A_Share) = some false)
    (ei2_Share : PySem.W.subIn K (.type "tuple") (.ref A_Share) = some false)
    (ei3_Share : PySem.W.subIn K (.ref A_Share) (.type "int") = some false)
    (r1_Share_mul : PySem.W.findIn K (.type "int") "__mul__" = some fo_Share_mul)
    (r2_Share_mul : PySem.W.findIn K (.type "int") "__rmul__" = some ro_Share_mul)
    (r3_Share_mul : PySem.W.findIn K (.ref A_Share) "__rmul__" = some (some (.ref fr_Share_mul)))
    (r4_Share_mul : PySem.W.subIn K (.type "int") (.ref A_Share) = some false)
    (r1_Share_floordiv : PySem.W.findIn K (.type "int") "__floordiv__" = some fo_Share_floordiv)
    (r2_Share_floordiv : PySem.W.findIn K (.type "int") "__rfloordiv__" = some ro_Share_floordiv)
    (r3_Share_floordiv : PySem.W.findIn K (.ref A_Share) "__rfloordiv__" = some none)
    (r4_Share_floordiv : PySem.W.subIn K (.type "int") (.ref A_Share) = some false)
    (r1_Share_mod : PySem.W.findIn K (.type "int") "__mod__" = some fo_Share_mod)
    (r2_Share_mod : PySem.W.findIn K (.type "int") "__rmod__" = some ro_Share_mod)
    (r3_Share_mod : PySem.W.findIn K (.ref A_Share) "__rmod__" = some none)
    (r4_Share_mod : PySem.W.subIn K (.type "int") (.ref A_Share) = some false)
    (ei_BadShare : PySem.W.findIn K (.ref A_BadShare) "__init__" = some (some (.ref A_fE)))
    (l_E : K.lookup A_fE = some ⟨oc_E, od_E, .func (PySem.W.fnOf "__init__" "GangError.__init__" (defArgs s_E) (defBody s_E) (defScope s_E) .none .none dc_E pm_E an_E cd_E ct_E), sl_E⟩)
    (c_E : PySem.W.codeIn K cd_E "GangError.__init__" = true)
    (t_E : PySem.W.typeIn K (.ref A_fE) = some (.type "function"))
    (xL_BadShare : K.lookup A_BadShare = some (excClassObj nm_BadShare q_BadShare A_BadShare N_BadShare bs_BadShare [.ref A_GangError, .type "ValueError", .type "Exception", .type "BaseException", .type "object"] true sn_BadShare sub_BadShare ab_BadShare col_BadShare dd_BadShare m0_BadShare m1_BadShare m2_BadShare m3_BadShare m5_BadShare "ValueError.__new__"))
    (esa_BadShare : PySem.W.findIn K (.ref A_BadShare) "__setattr__" = some (some (.builtin "object.__setattr__")))
    (ega_BadShare : PySem.W.findIn K (.ref A_BadShare) "__getattribute__" = some (some (.builtin "BaseException.__getattribute__")))
    (egg_BadShare : PySem.W.findIn K (.ref A_BadShare) "__getattr__" = some none)
    (ens_BadShare : PySem.W.findIn K (.ref A_BadShare) "subject" = some none)
    (ek_BadShare : PySem.W.keepIn K (.ref A_BadShare) = true)
    (ebe_BadShare : PySem.W.subIn K (.ref A_BadShare) (.type "BaseException") = some true)
    (ety_BadShare : PySem.W.typeIn K (.ref A_BadShare) = some (.type "type"))
    (ehd_BadShare : PySem.W.hasDictIn K A_BadShare = true)
    (eha_BadShare : PySem.W.findIn K (.ref A_BadShare) "__class__" = some (some (.builtin "object.__class__")))
    (ehm_BadShare : PySem.W.mroIn K A_BadShare (.type "object") = some true)
    (cb_GangError : PySem.W.subIn K (.ref A_GangError) (.type "BaseException") = some true)
    (ch_GangError : PySem.W.hasDictIn K A_GangError = true)
    (ct_GangError : PySem.W.typeIn K (.ref A_GangError) = some (.type "type"))
    (cs_BadShare_GangError : PySem.W.subIn K (.ref A_BadShare) (.ref A_GangError) = some true)
    (k_BadShare_BadShare : PySem.W.kitOne K (.ref A_BadShare) (.ref A_BadShare) = some true)
    (k_BadShare_ValueError : PySem.W.kitOne K (.ref A_BadShare) (.type "ValueError") = some true)
    (k_BadShare_BadAmounts : PySem.W.kitOne K (.ref A_BadShare) (.ref A_BadAmounts) = some false)
    (k_BadShare_Unknown : PySem.W.kitOne K (.ref A_BadShare) (.ref A_Unknown) = some false)
    (a__law_draw : PySem.W.nsIn K mainGlobals "_law_draw" = some (some (.ref f__law_draw)))
    (l__law_draw : K.lookup f__law_draw = some ⟨oc__law_draw, od__law_draw, .func (PySem.W.fnOf "_law_draw" "_law_draw" (defArgs s__law_draw) (defBody s__law_draw) (defScope s__law_draw) .none kV__law_draw dc__law_draw pm__law_draw an__law_draw cd__law_draw ct__law_draw), sl__law_draw⟩)
    (c__law_draw : PySem.W.codeIn K cd__law_draw "_law_draw" = true)
    (k__law_draw : PySem.W.keepIn K (.ref f__law_draw) = true)
    (a__law_pool : PySem.W.nsIn K mainGlobals "_law_pool" = some (some (.ref f__law_pool)))
    (l__law_pool : K.lookup f__law_pool = some ⟨oc__law_pool, od__law_pool, .func (PySem.W.fnOf "_law_pool" "_law_pool" (defArgs s__law_pool) (defBody s__law_pool) (defScope s__law_pool) .none kV__law_pool dc__law_pool pm__law_pool an__law_pool cd__law_pool ct__law_pool), sl__law_pool⟩)
    (c__law_pool : PySem.W.codeIn K cd__law_pool "_law_pool" = true)
    (k__law_pool : PySem.W.keepIn K (.ref f__law_pool) = true)
    (a_gcd : PySem.W.nsIn K mainGlobals "gcd" = some (some (.ref f_gcd)))
    (l_gcd : K.lookup f_gcd = some ⟨oc_gcd, od_gcd, .func (PySem.W.fnOf "gcd" "gcd" (defArgs s_gcd) (defBody s_gcd) (defScope s_gcd) .none kV_gcd dc_gcd pm_gcd an_gcd cd_gcd ct_gcd), sl_gcd⟩)
    (c_gcd : PySem.W.codeIn K cd_gcd "gcd" = true)
    (k_gcd : PySem.W.keepIn K (.ref f_gcd) = true)
    (a_Share___init__ : PySem.W.findIn K (.ref A_Share) "__init__" = some (some (.ref f_Share___init__)))
    (i_Share___init__ : PySem.W.isFn K (.ref f_Share___init__) = true)
    (l_Share___init__ : K.lookup f_Share___init__ = some ⟨oc_Share___init__, od_Share___init__, .func (PySem.W.fnOf "__init__" "Share.__init__" (defArgs s_Share___init__) (defBody s_Share___init__) (defScope s_Share___init__) (.ref T_Share___init__) kV_Share___init__ dc_Share___init__ pm_Share___init__ an_Share___init__ cd_Share___init__ ct_Share___init__), sl_Share___init__⟩)
    (lT_Share___init__ : K.lookup T_Share___init__ = some ⟨ocT_Share___init__, odT_Share___init__, .seq #[uT_Share___init__] nT_Share___init__, slT_Share___init__⟩)
    (rT_Share___init__ : RelV (.int 1) uT_Share___init__)
    (c_Share___init__ : PySem.W.codeIn K cd_Share___init__ "Share.__init__" = true)
    (k_Share___init__ : PySem.W.keepIn K (.ref f_Share___init__) = true)
    (a_as_share : PySem.W.nsIn K mainGlobals "as_share" = some (some (.ref f_as_share)))
    (l_as_share : K.lookup f_as_share = some ⟨oc_as_share, od_as_share, .func (PySem.W.fnOf "as_share" "as_share" (defArgs s_as_share) (defBody s_as_share) (defScope s_as_share) .none kV_as_share dc_as_share pm_as_share an_as_share cd_as_share ct_as_share), sl_as_share⟩)
    (c_as_share : PySem.W.codeIn K cd_as_share "as_share" = true)
    (k_as_share : PySem.W.keepIn K (.ref f_as_share) = true)
    (a_Share___sub__ : PySem.W.findIn K (.ref A_Share) "__sub__" = some (some (.ref f_Share___sub__)))
    (i_Share___sub__ : PySem.W.isFn K (.ref f_Share___sub__) = true)
    (l_Share___sub__ : K.lookup f_Share___sub__ = some ⟨oc_Share___sub__, od_Share___sub__, .func (PySem.W.fnOf "__sub__" "Share.__sub__" (defArgs s_Share___sub__) (defBody s_Share___sub__) (defScope s_Share___sub__) .none kV_Share___sub__ dc_Share___sub__ pm_Share___sub__ an_Share___sub__ cd_Share___sub__ ct_Share___sub__), sl_Share___sub__⟩)
    (c_Share___sub__ : PySem.W.codeIn K cd_Share___sub__ "Share.__sub__" = true)
    (k_Share___sub__ : PySem.W.keepIn K (.ref f_Share___sub__) = true)
    (a_Share___mul__ : PySem.W.findIn K (.ref A_Share) "__mul__" = some (some (.ref f_Share___mul__)))
    (i_Share___mul__ : PySem.W.isFn K (.ref f_Share___mul__) = true)
    (l_Share___mul__ : K.lookup f_Share___mul__ = some ⟨oc_Share___mul__, od_Share___mul__, .func (PySem.W.fnOf "__mul__" "Share.__mul__" (defArgs s_Share___mul__) (defBody s_Share___mul__) (defScope s_Share___mul__) .none kV_Share___mul__ dc_Share___mul__ pm_Share___mul__ an_Share___mul__ cd_Share___mul__ ct_Share___mul__), sl_Share___mul__⟩)
    (c_Share___mul__ : PySem.W.codeIn K cd_Share___mul__ "Share.__mul__" = true)
    (k_Share___mul__ : PySem.W.keepIn K (.ref f_Share___mul__) = true)
    (a_Share___floordiv__ : PySem.W.findIn K (.ref A_Share) "__floordiv__" = some (some (.ref f_Share___floordiv__)))
    (i_Share___floordiv__ : PySem.W.isFn K (.ref f_Share___floordiv__) = true)
    (l_Share___floordiv__ : K.lookup f_Share___floordiv__ = some ⟨oc_Share___floordiv__, od_Share___floordiv__, .func (PySem.W.fnOf "__floordiv__" "Share.__floordiv__" (defArgs s_Share___floordiv__) (defBody s_Share___floordiv__) (defScope s_Share___floordiv__) .none kV_Share___floordiv__ dc_Share___floordiv__ pm_Share___floordiv__ an_Share___floordiv__ cd_Share___floordiv__ ct_Share___floordiv__), sl_Share___floordiv__⟩)
    (c_Share___floordiv__ : PySem.W.codeIn K cd_Share___floordiv__ "Share.__floordiv__" = true)
    (k_Share___floordiv__ : PySem.W.keepIn K (.ref f_Share___floordiv__) = true)
    (a_Share_over : PySem.W.findIn K (.ref A_Share) "over" = some (some (.ref f_Share_over)))
    (i_Share_over : PySem.W.isFn K (.ref f_Share_over) = true)
    (l_Share_over : K.lookup f_Share_over = some ⟨oc_Share_over, od_Share_over, .func (PySem.W.fnOf "over" "Share.over" (defArgs s_Share_over) (defBody s_Share_over) (defScope s_Share_over) .none kV_Share_over dc_Share_over pm_Share_over an_Share_over cd_Share_over ct_Share_over), sl_Share_over⟩)
    (c_Share_over : PySem.W.codeIn K cd_Share_over "Share.over" = true)
    (k_Share_over : PySem.W.keepIn K (.ref f_Share_over) = true)
    (a_Share___mod__ : PySem.W.findIn K (.ref A_Share) "__mod__" = some (some (.ref f_Share___mod__)))
    (i_Share___mod__ : PySem.W.isFn K (.ref f_Share___mod__) = true)
    (l_Share___mod__ : K.lookup f_Share___mod__ = some ⟨oc_Share___mod__, od_Share___mod__, .func (PySem.W.fnOf "__mod__" "Share.__mod__" (defArgs s_Share___mod__) (defBody s_Share___mod__) (defScope s_Share___mod__) .none kV_Share___mod__ dc_Share___mod__ pm_Share___mod__ an_Share___mod__ cd_Share___mod__ ct_Share___mod__), sl_Share___mod__⟩)
    (c_Share___mod__ : PySem.W.codeIn K cd_Share___mod__ "Share.__mod__" = true)
    (k_Share___mod__ : PySem.W.keepIn K (.ref f_Share___mod__) = true)
    (a__law_number : PySem.W.nsIn K mainGlobals "_law_number" = some (some (.ref f__law_number)))
    (l__law_number : K.lookup f__law_number = some ⟨oc__law_number, od__law_number, .func (PySem.W.fnOf "_law_number" "_law_number" (defArgs s__law_number) (defBody s__law_number) (defScope s__law_number) .none kV__law_number dc__law_number pm__law_number an__law_number cd__law_number ct__law_number), sl__law_number⟩)
    (c__law_number : PySem.W.codeIn K cd__law_number "_law_number" = true)
    (k__law_number : PySem.W.keepIn K (.ref f__law_number) = true)
    (a__law_signed : PySem.W.nsIn K mainGlobals "_law_signed" = some (some (.ref f__law_signed)))
    (l__law_signed : K.lookup f__law_signed = some ⟨oc__law_signed, od__law_signed, .func (PySem.W.fnOf "_law_signed" "_law_signed" (defArgs s__law_signed) (defBody s__law_signed) (defScope s__law_signed) .none kV__law_signed dc__law_signed pm__law_signed an__law_signed cd__law_signed ct__law_signed), sl__law_signed⟩)
    (c__law_signed : PySem.W.codeIn K cd__law_signed "_law_signed" = true)
    (k__law_signed : PySem.W.keepIn K (.ref f__law_signed) = true)
    (a__law_pair : PySem.W.nsIn K mainGlobals "_law_pair" = some (some (.ref f__law_pair)))
    (l__law_pair : K.lookup f__law_pair = some ⟨oc__law_pair, od__law_pair, .func (PySem.W.fnOf "_law_pair" "_law_pair" (defArgs s__law_pair) (defBody s__law_pair) (defScope s__law_pair) .none kV__law_pair dc__law_pair pm__law_pair an__law_pair cd__law_pair ct__law_pair), sl__law_pair⟩)
    (c__law_pair : PySem.W.codeIn K cd__law_pair "_law_pair" = true)
    (k__law_pair : PySem.W.keepIn K (.ref f__law_pair) = true)
    (a__law_whole : PySem.W.nsIn K mainGlobals "_law_whole" = some (some (.ref f__law_whole)))
    (l__law_whole : K.lookup f__law_whole = some ⟨oc__law_whole, od__law_whole, .func (PySem.W.fnOf "_law_whole" "_law_whole" (defArgs s__law_whole) (defBody s__law_whole) (defScope s__law_whole) .none kV__law_whole dc__law_whole pm__law_whole an__law_whole cd__law_whole ct__law_whole), sl__law_whole⟩)
    (c__law_whole : PySem.W.codeIn K cd__law_whole "_law_whole" = true)
    (k__law_whole : PySem.W.keepIn K (.ref f__law_whole) = true)
    (a__law_coprime : PySem.W.nsIn K mainGlobals "_law_coprime" = some (some (.ref f__law_coprime)))
    (l__law_coprime : K.lookup f__law_coprime = some ⟨oc__law_coprime, od__law_coprime, .func (PySem.W.fnOf "_law_coprime" "_law_coprime" (defArgs s__law_coprime) (defBody s__law_coprime) (defScope s__law_coprime) .none kV__law_coprime dc__law_coprime pm__law_coprime an__law_coprime cd__law_coprime ct__law_coprime), sl__law_coprime⟩)
    (c__law_coprime : PySem.W.codeIn K cd__law_coprime "_law_coprime" = true)
    (k__law_coprime : PySem.W.keepIn K (.ref f__law_coprime) = true)
    (a__law_is : PySem.W.nsIn K mainGlobals "_law_is" = some (some (.ref f__law_is)))
    (l__law_is : K.lookup f__law_is = some ⟨oc__law_is, od__law_is, .func (PySem.W.fnOf "_law_is" "_law_is" (defArgs s__law_is) (defBody s__law_is) (defScope s__law_is) .none kV__law_is dc__law_is pm__law_is an__law_is cd__law_is ct__law_is), sl__law_is⟩)
    (c__law_is : PySem.W.codeIn K cd__law_is "_law_is" = true)
    (k__law_is : PySem.W.keepIn K (.ref f__law_is) = true)
    (a__law_quotients : PySem.W.nsIn K mainGlobals "_law_quotients" = some (some (.ref f__law_quotients)))
    (l__law_quotients : K.lookup f__law_quotients = some ⟨oc__law_quotients, od__law_quotients, .func (PySem.W.fnOf "_law_quotients" "_law_quotients" (defArgs s__law_quotients) (defBody s__law_quotients) (defScope s__law_quotients) .none kV__law_quotients dc__law_quotients pm__law_quotients an__law_quotients cd__law_quotients ct__law_quotients), sl__law_quotients⟩)
    (c__law_quotients : PySem.W.codeIn K cd__law_quotients "_law_quotients" = true)
    (k__law_quotients : PySem.W.keepIn K (.ref f__law_quotients) = true)
    (a__law_refused : PySem.W.nsIn K mainGlobals "_law_refused" = some (some (.ref f__law_refused)))
    (l__law_refused : K.lookup f__law_refused = some ⟨oc__law_refused, od__law_refused, .func (PySem.W.fnOf "_law_refused" "_law_refused" (defArgs s__law_refused) (defBody s__law_refused) (defScope s__law_refused) .none kV__law_refused dc__law_refused pm__law_refused an__law_refused cd__law_refused ct__law_refused), sl__law_refused⟩)
    (c__law_refused : PySem.W.codeIn K cd__law_refused "_law_refused" = true)
    (k__law_refused : PySem.W.keepIn K (.ref f__law_refused) = true)
    (a_law : PySem.W.nsIn K mainGlobals "law" = some (some (.ref f_law)))
    (l_law : K.lookup f_law = some ⟨oc_law, od_law, .func (PySem.W.fnOf "law" "law" (defArgs s_law) (defBody s_law) (defScope s_law) .none kV_law dc_law pm_law an_law cd_law ct_law), sl_law⟩)
    (c_law : PySem.W.codeIn K cd_law "law" = true)
    (k_law : PySem.W.keepIn K (.ref f_law) = true)
    (ki_int : PySem.W.kitOne K (.type "int") (.ref A_Share) = some false)
    (ki_tup : PySem.W.kitOne K (.type "tuple") (.ref A_Share) = some false)
    : ∃ fd : FuncData, (∀ (s : Shared) (v : Value), BindsTo s fd ⟨[v], []⟩ [("_law_script", v)]) ∧ ∀ base : Heap, K.In base → base.Ns mainGlobals mg → FnOk l.prog w K mg base (L2N.CX l.prog w) 8 fa fd ["_law_script"] (spLaw K) := by
  have e := hfa.symm.trans (PySem.W.mg_of X G a_law)
  cases e
  let c : Ad := ⟨K, A_GangError, A_BadShare, A_BadAmounts, A_Unknown, A_Share, A_fE⟩
  have e_BadShare : PySem.GErr.ErrTxt K mg "BadShare" A_BadShare A_fE := { gC := PySem.W.mg_of X G a_BadShare, cls := ⟨nm_BadShare, q_BadShare, N_BadShare, bs_BadShare, _, sn_BadShare, sub_BadShare, ab_BadShare, col_BadShare, dd_BadShare, m0_BadShare, m1_BadShare, m2_BadShare, m3_BadShare, m5_BadShare, xL_BadShare, rfl⟩, sa := esa_BadShare, ga := ega_BadShare, gg := egg_BadShare, noN := ens_BadShare, iC := ei_BadShare, tC := t_E, kC := ek_BadShare, exC := ebe_BadShare, tyC := ety_BadShare, hdC := ehd_BadShare, haC := eha_BadShare, hnC := hn0, htC := ht0, hmC := ehm_BadShare, fn := ⟨_, _, _, _, _, _, _, _, _, _, _, _, _, _, l_E, c_E⟩ }
  have o_Share : OwnC K mg "Share" A_Share := ⟨PySem.W.mg_of X G a_Share, ⟨pg_Share, hd_Share, po_Share, sa_Share⟩, sf_Share, ha_Share, hn0, ht0, hm_Share, kit_self⟩
  have T : Txt K mg c := { kk := rfl, b_ValueError := PySem.W.mg_none_of X G z_ValueError, b_len := PySem.W.mg_none_of X G z_len, b_int := PySem.W.mg_none_of X G z_int, b_abs := PySem.W.mg_none_of X G z_abs, b_isinstance := PySem.W.mg_none_of X G z_isinstance, b_bool := PySem.W.mg_none_of X G z_bool, b_range := PySem.W.mg_none_of X G z_range, g_GangError := PySem.W.mg_of X G a_GangError, g_BadShare := PySem.W.mg_of X G a_BadShare, g_BadAmounts := PySem.W.mg_of X G a_BadAmounts, g_Unknown := PySem.W.mg_of X G a_Unknown, g_Share := PySem.W.mg_of X G a_Share, o_Share := o_Share, sf_Share := sf_Share, na_Share_top := na_Share_top, na_Share_bottom := na_Share_bottom, ni_Share := not_first ei1_Share, nt_Share := not_first ei2_Share, si_Share := ei3_Share, ri_Share___mul__ := right_mk (by decide +kernel) (by decide +kernel) r1_Share_mul r2_Share_mul r3_Share_mul (.inr ⟨_, rfl⟩) r4_Share_mul, ri_Share___floordiv__ := right_mk (by decide +kernel) (by decide +kernel) r1_Share_floordiv r2_Share_floordiv r3_Share_floordiv (.inl rfl) r4_Share_floordiv, ri_Share___mod__ := right_mk (by decide +kernel) (by decide +kernel) r1_Share_mod r2_Share_mod r3_Share_mod (.inl rfl) r4_Share_mod, e_BadShare := e_BadShare, x_BadShare_GangError := PySem.W.exm_ref cb_GangError ch_GangError ct_GangError cs_BadShare_GangError, k_BadShare_BadShare := k_BadShare_BadShare, k_BadShare_ValueError := k_BadShare_ValueError, k_BadShare_BadAmounts := k_BadShare_BadAmounts, k_BadShare_Unknown := k_BadShare_Unknown, ki_int := ki_int, ki_tup := ki_tup }
  have F_law_draw := fun_mk (st := s__law_draw) l__law_draw c__law_draw k__law_draw
  have b_law_draw := F_law_draw.binds (ps := ["_law_pool_here", "_law_many"]) fun _ _ _ _ _ _ us hl => match us, hl with | [_, _], _ => rfl
  have F_law_pool := fun_mk (st := s__law_pool) l__law_pool c__law_pool k__law_pool
  have b_law_pool := F_law_pool.binds (ps := ["_law_script"]) fun _ _ _ _ _ _ us hl => match us, hl with | [_], _ => rfl
  have Fgcd := fun_mk (st := s_gcd) l_gcd c_gcd k_gcd
  have bgcd := Fgcd.binds (ps := ["one", "two"]) fun _ _ _ _ _ _ us hl => match us, hl with | [_, _], _ => rfl
  have FShare___init__ := GG.funD_mk (st := s_Share___init__) l_Share___init__ c_Share___init__ k_Share___init__ lT_Share___init__ rT_Share___init__
  obtain ⟨ds0_Share___init__, v0_Share___init__, b0_Share___init__⟩ := FShare___init__.binds1 (ps := ["self", "top", "bottom"]) 3 1 (by simp) rfl fun T kV doc pm an cdv ct us its h1 h2 => match us, its, h1, h2 with | [_, _, _], [_], _, _ => ⟨_, rfl, rfl⟩
  obtain ⟨ds1_Share___init__, v1_Share___init__, b1_Share___init__⟩ := FShare___init__.binds1 (ps := ["self", "top", "bottom"]) 2 0 (by simp) rfl fun T kV doc pm an cdv ct us its h1 h2 => match us, its, h1, h2 with | [_, _], [_], _, _ => ⟨_, rfl, rfl⟩
  have Fas_share := fun_mk (st := s_as_share) l_as_share c_as_share k_as_share
  have bas_share := Fas_share.binds (ps := ["value"]) fun _ _ _ _ _ _ us hl => match us, hl with | [_], _ => rfl
  have FShare___sub__ := fun_mk (st := s_Share___sub__) l_Share___sub__ c_Share___sub__ k_Share___sub__
  have bShare___sub__ := FShare___sub__.binds (ps := ["self", "other"]) fun _ _ _ _ _ _ us hl => match us, hl with | [_, _], _ => rfl
  have FShare___mul__ := fun_mk (st := s_Share___mul__) l_Share___mul__ c_Share___mul__ k_Share___mul__
  have bShare___mul__ := FShare___mul__.binds (ps := ["self", "other"]) fun _ _ _ _ _ _ us hl => match us, hl with | [_, _], _ => rfl
  have FShare___floordiv__ := fun_mk (st := s_Share___floordiv__) l_Share___floordiv__ c_Share___floordiv__ k_Share___floordiv__
  have bShare___floordiv__ := FShare___floordiv__.binds (ps := ["self", "other"]) fun _ _ _ _ _ _ us hl => match us, hl with | [_, _], _ => rfl
  have FShare_over := fun_mk (st := s_Share_over) l_Share_over c_Share_over k_Share_over
  have bShare_over := FShare_over.binds (ps := ["self", "other"]) fun _ _ _ _ _ _ us hl => match us, hl with | [_, _], _ => rfl
  have FShare___mod__ := fun_mk (st := s_Share___mod__) l_Share___mod__ c_Share___mod__ k_Share___mod__
  have bShare___mod__ := FShare___mod__.binds (ps := ["self", "other"]) fun _ _ _ _ _ _ us hl => match us, hl with | [_, _], _ => rfl
  have F_law_number := fun_mk (st := s__law_number) l__law_number c__law_number k__law_number
  have b_law_number := F_law_number.binds (ps := ["_law_pool_here", "_law_groups"]) fun _ _ _ _ _ _ us hl => match us, hl with | [_, _], _ => rfl
  have F_law_signed := fun_mk (st := s__law_signed) l__law_signed c__law_signed k__law_signed
  have b_law_signed := F_law_signed.binds (ps := ["_law_pool_here", "_law_groups"]) fun _ _ _ _ _ _ us hl => match us, hl with | [_, _], _ => rfl
  have F_law_pair := fun_mk (st := s__law_pair) l__law_pair c__law_pair k__law_pair
  have b_law_pair := F_law_pair.binds (ps := ["_law_pool_here", "_law_groups"]) fun _ _ _ _ _ _ us hl => match us, hl with | [_, _], _ => rfl
  have F_law_whole := fun_mk (st := s__law_whole) l__law_whole c__law_whole k__law_whole
  have b_law_whole := F_law_whole.binds (ps := ["_law_value"]) fun _ _ _ _ _ _ us hl => match us, hl with | [_], _ => rfl
  have F_law_coprime := fun_mk (st := s__law_coprime) l__law_coprime c__law_coprime k__law_coprime
  have b_law_coprime := F_law_coprime.binds (ps := ["_law_one", "_law_other"]) fun _ _ _ _ _ _ us hl => match us, hl with | [_, _], _ => rfl
  have F_law_is := fun_mk (st := s__law_is) l__law_is c__law_is k__law_is
  have b_law_is := F_law_is.binds (ps := ["_law_share", "_law_top", "_law_bottom"]) fun _ _ _ _ _ _ us hl => match us, hl with | [_, _, _], _ => rfl
  have F_law_quotients := fun_mk (st := s__law_quotients) l__law_quotients c__law_quotients k__law_quotients
  have b_law_quotients := F_law_quotients.binds (ps := ["_law_one", "_law_a", "_law_other", "_law_b"]) fun _ _ _ _ _ _ us hl => match us, hl with | [_, _, _, _], _ => rfl
  have F_law_refused := fun_mk (st := s__law_refused) l__law_refused c__law_refused k__law_refused
  have b_law_refused := F_law_refused.binds (ps := ["_law_one", "_law_a", "_law_nothing", "_law_way"]) fun _ _ _ _ _ _ us hl => match us, hl with | [_, _, _, _], _ => rfl
  have Flaw := fun_mk (st := s_law) l_law c_law k_law
  refine ⟨PySem.W.fnOf "law" "law" (defArgs s_law) (defBody s_law) (defScope s_law) .none kV_law dc_law pm_law an_law cd_law ct_law, fun s v => .of_eq rfl, fun base _ _ => ?_⟩
  have G_law_draw : FnOk l.prog w K mg base (L2N.CX l.prog w) 1 f__law_draw _ ["_law_pool_here", "_law_many"] (sp__law_draw c) := ok__law_draw F_law_draw T 
  have Z__law_draw : Fn l.prog w K mg base "_law_draw" 1 ["_law_pool_here", "_law_many"] [] (sp__law_draw c) := ⟨_, _, _, G_law_draw, PySem.W.mg_of X G a__law_draw, k__law_draw, b_law_draw, .nil⟩
  have G_law_pool : FnOk l.prog w K mg base (L2N.CX l.prog w) 1 f__law_pool _ ["_law_script"] (sp__law_pool c) := ok__law_pool F_law_pool T 
  have Z__law_pool : Fn l.prog w K mg base "_law_pool" 1 ["_law_script"] [] (sp__law_pool c) := ⟨_, _, _, G_law_pool, PySem.W.mg_of X G a__law_pool, k__law_pool, b_law_pool, .nil⟩
  have Ggcd : FnOk l.prog w K mg base (L2N.CX l.prog w) 1 f_gcd _ ["one", "two"] (sp_gcd c) := ok_gcd Fgcd T 
  have Z_gcd : Fn l.prog w K mg base "gcd" 1 ["one", "two"] [] (sp_gcd c) := ⟨_, _, _, Ggcd, PySem.W.mg_of X G a_gcd, k_gcd, bgcd, .nil⟩
  have G_law_whole : FnOk l.prog w K mg base (L2N.CX l.prog w) 1 f__law_whole _ ["_law_value"] (sp__law_whole c) := ok__law_whole F_law_whole T 
  have Z__law_whole : Fn l.prog w K mg base "_law_whole" 1 ["_law_value"] [] (sp__law_whole c) := ⟨_, _, _, G_law_whole, PySem.W.mg_of X G a__law_whole, k__law_whole, b_law_whole, .nil⟩
  have GH__law_whole : L2H.FnH l.prog w K mg base (L2N.CX l.prog w) 1 f__law_whole _ ["_law_value"] (sp__law_whole c) := okH__law_whole F_law_whole T 
  have ZH__law_whole : FnS l.prog w K mg base "_law_whole" 1 ["_law_value"] (sp__law_whole c) := ⟨_, _, GH__law_whole, PySem.W.mg_of X G a__law_whole, k__law_whole, b_law_whole⟩
  have G_law_coprime : FnOk l.prog w K mg base (L2N.CX l.prog w) 1 f__law_coprime _ ["_law_one", "_law_other"] (sp__law_coprime c) := ok__law_coprime F_law_coprime T 
  have Z__law_coprime : Fn l.prog w K mg base "_law_coprime" 1 ["_law_one", "_law_other"] [] (sp__law_coprime c) := ⟨_, _, _, G_law_coprime, PySem.W.mg_of X G a__law_coprime, k__law_coprime, b_law_coprime, .nil⟩
  have GH__law_coprime : L2H.FnH l.prog w K mg base (L2N.CX l.prog w) 1 f__law_coprime _ ["_law_one", "_law_other"] (sp__law_coprime c) := okH__law_coprime F_law_coprime T 
  have ZH__law_coprime : FnS l.prog w K mg base "_law_coprime" 1 ["_law_one", "_law_other"] (sp__law_coprime c) := ⟨_, _, GH__law_coprime, PySem.W.mg_of X G a__law_coprime, k__law_coprime, b_law_coprime⟩
  have GShare___init__ : FnOk l.prog w K mg base (L2N.CX l.prog w) 2 f_Share___init__ _ ["self", "top", "bottom"] (sp_Share___init__ c) := ok_Share___init__ FShare___init__ T Z_gcd
  have ZM_Share : Mc l.prog w K mg base "Share" c.Share 2 ["self", "top", "bottom"] [] (sp_Share___init__ c) := ⟨_, _, _, GShare___init__, ⟨mk_Share, a_Share___init__, i_Share___init__, kc_Share⟩, PySem.W.mg_of X G a_Share, b0_Share___init__, v0_Share___init__⟩
  have ZM_Share_1 : Mc l.prog w K mg base "Share" c.Share 2 ["self", "top", "bottom"] [.int 1] (sp_Share___init__ c) := ⟨_, _, _, GShare___init__, ⟨mk_Share, a_Share___init__, i_Share___init__, kc_Share⟩, PySem.W.mg_of X G a_Share, b1_Share___init__, v1_Share___init__⟩
  have G_law_number : FnOk l.prog w K mg base (L2N.CX l.prog w) 2 f__law_number _ ["_law_pool_here", "_law_groups"] (sp__law_number c) := ok__law_number F_law_number T Z__law_draw
  have Z__law_number : Fn l.prog w K mg base "_law_number" 2 ["_law_pool_here", "_law_groups"] [] (sp__law_number c) := ⟨_, _, _, G_law_number, PySem.W.mg_of X G a__law_number, k__law_number, b_law_number, .nil⟩
  have G_law_is : FnOk l.prog w K mg base (L2N.CX l.prog w) 2 f__law_is _ ["_law_share", "_law_top", "_law_bottom"] (sp__law_is c) := ok__law_is F_law_is T Z__law_coprime Z__law_whole
  have Z__law_is : Fn l.prog w K mg base "_law_is" 2 ["_law_share", "_law_top", "_law_bottom"] [] (sp__law_is c) := ⟨_, _, _, G_law_is, PySem.W.mg_of X G a__law_is, k__law_is, b_law_is, .nil⟩
  have GH__law_is : L2H.FnH l.prog w K mg base (L2N.CX l.prog w) 2 f__law_is _ ["_law_share", "_law_top", "_law_bottom"] (sp__law_is c) := okH__law_is F_law_is T ZH__law_coprime ZH__law_whole
  have ZH__law_is : FnS l.prog w K mg base "_law_is" 2 ["_law_share", "_law_top", "_law_bottom"] (sp__law_is c) := ⟨_, _, GH__law_is, PySem.W.mg_of X G a__law_is, k__law_is, b_law_is⟩
  have G_law_signed : FnOk l.prog w K mg base (L2N.CX l.prog w) 3 f__law_signed _ ["_law_pool_here", "_law_groups"] (sp__law_signed c) := ok__law_signed F_law_signed T Z__law_draw Z__law_number
  have Z__law_signed : Fn l.prog w K mg base "_law_signed" 3 ["_law_pool_here", "_law_groups"] [] (sp__law_signed c) := ⟨_, _, _, G_law_signed, PySem.W.mg_of X G a__law_signed, k__law_signed, b_law_signed, .nil⟩
  have Gas_share : FnOk l.prog w K mg base (L2N.CX l.prog w) 4 f_as_share _ ["value"] (sp_as_share c) := ok_as_share Fas_share T ZM_Share_1
  have Z_as_share : Fn l.prog w K mg base "as_share" 4 ["value"] [] (sp_as_share c) := ⟨_, _, _, Gas_share, PySem.W.mg_of X G a_as_share, k_as_share, bas_share, .nil⟩
  have G_law_pair : FnOk l.prog w K mg base (L2N.CX l.prog w) 4 f__law_pair _ ["_law_pool_here", "_law_groups"] (sp__law_pair c) := ok__law_pair F_law_pair T Z__law_signed
  have Z__law_pair : Fn l.prog w K mg base "_law_pair" 4 ["_law_pool_here", "_law_groups"] [] (sp__law_pair c) := ⟨_, _, _, G_law_pair, PySem.W.mg_of X G a__law_pair, k__law_pair, b_law_pair, .nil⟩
  have GShare___sub__ : FnOk l.prog w K mg base (L2N.CX l.prog w) 5 f_Share___sub__ _ ["self", "other"] (sp_Share___sub__ c) := ok_Share___sub__ FShare___sub__ T Z_as_share ZM_Share
  have ZS_Share___sub__ : Sm l.prog w K mg base c.Share "__sub__" 5 ["self", "other"] (sp_Share___sub__ c) := ⟨_, _, GShare___sub__, a_Share___sub__, i_Share___sub__, bShare___sub__⟩
  have GShare___mul__ : FnOk l.prog w K mg base (L2N.CX l.prog w) 5 f_Share___mul__ _ ["self", "other"] (sp_Share___mul__ c) := ok_Share___mul__ FShare___mul__ T Z_as_share ZM_Share
  have ZS_Share___mul__ : Sm l.prog w K mg base c.Share "__mul__" 5 ["self", "other"] (sp_Share___mul__ c) := ⟨_, _, GShare___mul__, a_Share___mul__, i_Share___mul__, bShare___mul__⟩
  have GShare___floordiv__ : FnOk l.prog w K mg base (L2N.CX l.prog w) 5 f_Share___floordiv__ _ ["self", "other"] (sp_Share___floordiv__ c) := ok_Share___floordiv__ FShare___floordiv__ T Z_as_share
  have ZS_Share___floordiv__ : Sm l.prog w K mg base c.Share "__floordiv__" 5 ["self", "other"] (sp_Share___floordiv__ c) := ⟨_, _, GShare___floordiv__, a_Share___floordiv__, i_Share___floordiv__, bShare___floordiv__⟩
  have GShare_over : FnOk l.prog w K mg base (L2N.CX l.prog w) 5 f_Share_over _ ["self", "other"] (sp_Share_over c) := ok_Share_over FShare_over T Z_as_share ZM_Share
  have ZT_Share_over : Mt l.prog w K mg base c.Share "over" 5 ["self", "other"] [] (sp_Share_over c) := ⟨⟨_, _, _, GShare_over, ⟨a_Share_over, i_Share_over, k_Share_over⟩, bShare_over, .nil⟩, o_Share.cl⟩
  have GShare___mod__ : FnOk l.prog w K mg base (L2N.CX l.prog w) 6 f_Share___mod__ _ ["self", "other"] (sp_Share___mod__ c) := ok_Share___mod__ FShare___mod__ T Z_as_share ZS_Share___sub__ ZS_Share___mul__ ZS_Share___floordiv__
  have ZS_Share___mod__ : Sm l.prog w K mg base c.Share "__mod__" 6 ["self", "other"] (sp_Share___mod__ c) := ⟨_, _, GShare___mod__, a_Share___mod__, i_Share___mod__, bShare___mod__⟩
  have G_law_quotients : FnOk l.prog w K mg base (L2N.CX l.prog w) 7 f__law_quotients _ ["_law_one", "_law_a", "_law_other", "_law_b"] (sp__law_quotients c) := ok__law_quotients F_law_quotients T Z__law_is Z__law_whole ZS_Share___mod__ ZS_Share___floordiv__ ZT_Share_over
  have Z__law_quotients : Fn l.prog w K mg base "_law_quotients" 7 ["_law_one", "_law_a", "_law_other", "_law_b"] [] (sp__law_quotients c) := ⟨_, _, _, G_law_quotients, PySem.W.mg_of X G a__law_quotients, k__law_quotients, b_law_quotients, .nil⟩
  have G_law_refused : FnOk l.prog w K mg base (L2N.CX l.prog w) 7 f__law_refused _ ["_law_one", "_law_a", "_law_nothing", "_law_way"] (sp__law_refused c) := ok__law_refused F_law_refused T ZH__law_is ZS_Share___floordiv__ ZS_Share___mod__ ZT_Share_over
  have Z__law_refused : Fn l.prog w K mg base "_law_refused" 7 ["_law_one", "_law_a", "_law_nothing", "_law_way"] [] (sp__law_refused c) := ⟨_, _, _, G_law_refused, PySem.W.mg_of X G a__law_refused, k__law_refused, b_law_refused, .nil⟩
  exact ok_law Flaw T Z__law_is Z__law_refused Z__law_quotients Z__law_draw Z__law_signed Z__law_pair Z__law_pool ZM_Share
theorem walk {l : PySem.W.OpenLaw} {q : Program} {loose : List Str} {XP : (Str → Option Value) → Heap → Prop} {YP : World → Heap → Prop} {d : DefRec} {K : Params → PySem.W.Frag} (hn : l.most = some 63) (hdf : d.params.defaults = [])
    (hY : ∀ (w : World) (h : Heap), YP w h → (K w.params).In h)
    (F : ∀ (w : World) (mg : Str → Option Value) (fa : Addr) (h : Heap), (K w.params).In h → h.Ns mainGlobals mg → mg d.name = some (.ref fa) →
      ∃ fd : FuncData, (∀ (s : Shared) (u : Value), BindsTo s fd ⟨[u], []⟩ [("_law_script", u)]) ∧ ∀ base : Heap, (K w.params).In base → base.Ns mainGlobals mg → FnOk l.prog w (K w.params) mg base (L2N.CX l.prog w) 8 fa fd ["_law_script"] (spLaw (K w.params))) :
    PySem.W.WalkO q loose XP YP l.row.toRowW d [] (fun f vs => PySem.call f vs) :=
  L2.walk_ofB (n := 63) (k := 8) (x := "_law_script") (CX := fun w => L2N.CX l.prog w) (sp := fun w => spLaw (K w.params)) hn (by decide) hdf ⟨rfl, by decide, by decide⟩ hY F (fun _ _ a ns hl hb _ hS => ⟨rfl, a, ns, rfl, hS, hl, hb, fun _ => rfl⟩)
    fun _ _ _ _ _ h => by
      obtain ⟨_, _, _, _, _, _, _, _, _, _, _, _, z⟩ := h
      exact z.elim
end K02
open PySem PySem.W PyProof.Rows in
set_option maxRecDepth 100000 in
set_option maxHeartbeats 0 in
theorem PySem.Challenge.cw_gangbooks_k02_share_floor_rest_holds : PySem.Challenge.rw_gangbooks_k02_share_floor_rest.Holds := by
  w_on; o_law; k_head; (case hw => w_witness2)
  k_fill
  refine K02.walk (l := PySem.Challenge.rw_gangbooks_k02_share_floor_rest) rfl rfl (fun w h Y => PySem.W.kIn_of Y) ?F
  case F =>
    intro w mg fa h KX G hmg
    refine' K02.all_mk KX G hmg ?z_ValueError ?z_len ?z_int ?z_abs ?z_isinstance ?z_bool ?z_range ?a_GangError ?a_BadShare ?a_BadAmounts ?a_Unknown ?a_Share ?hn0 ?ht0 ?pg_Share ?hd_Share ?po_Share ?sa_Share ?mk_Share ?kc_Share ?sf_Share ?ha_Share ?hm_Share ?na_Share_top ?na_Share_bottom ?ei1_Share ?ei2_Share ?ei3_Share ?r1_Share_mul ?r2_Share_mul ?r3_Share_mul ?r4_Share_mul ?r1_Share_floordiv ?r2_Share_floordiv ?r3_Share_floordiv ?r4_Share_floordiv ?r1_Share_mod ?r2_Share_mod ?r3_Share_mod ?r4_Share_mod ?ei_BadShare ?l_E ?c_E ?t_E ?xL_BadShare ?esa_BadShare ?ega_BadShare ?egg_BadShare ?ens_BadShare ?ek_BadShare ?ebe_BadShare ?ety_BadShare ?ehd_BadShare ?eha_BadShare ?ehm_BadShare ?cb_GangError ?ch_GangError ?ct_GangError ?cs_BadShare_GangError ?k_BadShare_BadShare ?k_BadShare_ValueError ?k_BadShare_BadAmounts ?k_BadShare_Unknown ?a__law_draw ?l__law_draw ?c__law_draw ?k__law_draw ?a__law_pool ?l__law_pool ?c__law_pool ?k__law_pool ?a_gcd ?l_gcd ?c_gcd ?k_gcd ?a_Share___init__ ?i_Share___init__ ?l_Share___init__ ?lT_Share___init__ ?rT_Share___init__ ?c_Share___init__ ?k_Share___init__ ?a_as_share ?l_as_share ?c_as_share ?k_as_share ?a_Share___sub__ ?i_Share___sub__ ?l_Share___sub__ ?c_Share___sub__ ?k_Share___sub__ ?a_Share___mul__ ?i_Share___mul__ ?l_Share___mul__ ?c_Share___mul__ ?k_Share___mul__ ?a_Share___floordiv__ ?i_Share___floordiv__ ?l_Share___floordiv__ ?c_Share___floordiv__ ?k_Share___floordiv__ ?a_Share_over ?i_Share_over ?l_Share_over ?c_Share_over ?k_Share_over ?a_Share___mod__ ?i_Share___mod__ ?l_Share___mod__ ?c_Share___mod__ ?k_Share___mod__ ?a__law_number ?l__law_number ?c__law_number ?k__law_number ?a__law_signed ?l__law_signed ?c__law_signed ?k__law_signed ?a__law_pair ?l__law_pair ?c__law_pair ?k__law_pair ?a__law_whole ?l__law_whole ?c__law_whole ?k__law_whole ?a__law_coprime ?l__law_coprime ?c__law_coprime ?k__law_coprime ?a__law_is ?l__law_is ?c__law_is ?k__law_is ?a__law_quotients ?l__law_quotients ?c__law_quotients ?k__law_quotients ?a__law_refused ?l__law_refused ?c__law_refused ?k__law_refused ?a_law ?l_law ?c_law ?k_law ?ki_int ?ki_tup
    (case z_ValueError => k_is)
    (case z_len => k_is)
    (case z_int => k_is)
    (case z_abs => k_is)
    (case z_isinstance => k_is)
    (case z_bool => k_is)
    (case z_range => k_is)
    (case a_GangError => k_is)
    (case a_BadShare => k_is)
    (case a_BadAmounts => k_is)
    (case a_Unknown => k_is)
    (case a_Share => k_is)
    (case hn0 => k_is)
    (case ht0 => k_is)
    (case pg_Share => k_is)
    (case hd_Share => k_is)
    (case po_Share => k_is)
    (case sa_Share => k_is)
    (case mk_Share => k_is)
    (case kc_Share => k_is)
    (case sf_Share => k_is)
    (case ha_Share => k_is)
    (case hm_Share => k_is)
    (case na_Share_top => k_is)
    (case na_Share_bottom => k_is)
    (case ei1_Share => k_is)
    (case ei2_Share => k_is)
    (case ei3_Share => k_is)
    (case r1_Share_mul => k_is)
    (case r2_Share_mul => k_is)
    (case r3_Share_mul => k_is)
    (case r4_Share_mul => k_is)
    (case r1_Share_floordiv => k_is)
    (case r2_Share_floordiv => k_is)
    (case r3_Share_floordiv => k_is)
    (case r4_Share_floordiv => k_is)
    (case r1_Share_mod => k_is)
    (case r2_Share_mod => k_is)
    (case r3_Share_mod => k_is)
    (case r4_Share_mod => k_is)
    (case ei_BadShare => k_is)
    (case l_E => k_is)
    (case c_E => k_is)
    (case t_E => k_is)
    (case xL_BadShare => k_is)
    (case esa_BadShare => k_is)
    (case ega_BadShare => k_is)
    (case egg_BadShare => k_is)
    (case ens_BadShare => k_is)
    (case ek_BadShare => k_is)
    (case ebe_BadShare => k_is)
    (case ety_BadShare => k_is)
    (case ehd_BadShare => k_is)
    (case eha_BadShare => k_is)
    (case ehm_BadShare => k_is)
    (case cb_GangError => k_is)
    (case ch_GangError => k_is)
    (case ct_GangError => k_is)
    (case cs_BadShare_GangError => first | rfl | k_is)
    (case k_BadShare_BadShare => first | kit_is | k_is)
    (case k_BadShare_ValueError => first | kit_is | k_is)
    (case k_BadShare_BadAmounts => first | kit_is | k_is)
    (case k_BadShare_Unknown => first | kit_is | k_is)
    (case a__law_draw => k_is)
    (case l__law_draw => k_is)
    (case c__law_draw => k_is)
    (case k__law_draw => k_is)
    (case a__law_pool => k_is)
    (case l__law_pool => k_is)
    (case c__law_pool => k_is)
    (case k__law_pool => k_is)
    (case a_gcd => k_is)
    (case l_gcd => k_is)
    (case c_gcd => k_is)
    (case k_gcd => k_is)
    (case a_Share___init__ => k_is)
    (case i_Share___init__ => k_is)
    (case l_Share___init__ => k_is)
    (case lT_Share___init__ => k_is)
    (case rT_Share___init__ => exact ⟨_, rfl⟩)
    (case c_Share___init__ => k_is)
    (case k_Share___init__ => k_is)
    (case a_as_share => k_is)
    (case l_as_share => k_is)
    (case c_as_share => k_is)
    (case k_as_share => k_is)
    (case a_Share___sub__ => k_is)
    (case i_Share___sub__ => k_is)
    (case l_Share___sub__ => k_is)
    (case c_Share___sub__ => k_is)
    (case k_Share___sub__ => k_is)
    (case a_Share___mul__ => k_is)
    (case i_Share___mul__ => k_is)
    (case l_Share___mul__ => k_is)
    (case c_Share___mul__ => k_is)
    (case k_Share___mul__ => k_is)
    (case a_Share___floordiv__ => k_is)
    (case i_Share___floordiv__ => k_is)
    (case l_Share___floordiv__ => k_is)
    (case c_Share___floordiv__ => k_is)
    (case k_Share___floordiv__ => k_is)
    (case a_Share_over => k_is)
    (case i_Share_over => k_is)
    (case l_Share_over => k_is)
    (case c_Share_over => k_is)
    (case k_Share_over => k_is)
    (case a_Share___mod__ => k_is)
    (case i_Share___mod__ => k_is)
    (case l_Share___mod__ => k_is)
    (case c_Share___mod__ => k_is)
    (case k_Share___mod__ => k_is)
    (case a__law_number => k_is)
    (case l__law_number => k_is)
    (case c__law_number => k_is)
    (case k__law_number => k_is)
    (case a__law_signed => k_is)
    (case l__law_signed => k_is)
    (case c__law_signed => k_is)
    (case k__law_signed => k_is)
    (case a__law_pair => k_is)
    (case l__law_pair => k_is)
    (case c__law_pair => k_is)
    (case k__law_pair => k_is)
    (case a__law_whole => k_is)
    (case l__law_whole => k_is)
    (case c__law_whole => k_is)
    (case k__law_whole => k_is)
    (case a__law_coprime => k_is)
    (case l__law_coprime => k_is)
    (case c__law_coprime => k_is)
    (case k__law_coprime => k_is)
    (case a__law_is => k_is)
    (case l__law_is => k_is)
    (case c__law_is => k_is)
    (case k__law_is => k_is)
    (case a__law_quotients => k_is)
    (case l__law_quotients => k_is)
    (case c__law_quotients => k_is)
    (case k__law_quotients => k_is)
    (case a__law_refused => k_is)
    (case l__law_refused => k_is)
    (case c__law_refused => k_is)
    (case k__law_refused => k_is)
    (case a_law => k_is)
    (case l_law => k_is)
    (case c_law => k_is)
    (case k_law => k_is)
    (case ki_int => first | kit_is | k_is)
    (case ki_tup => first | kit_is | k_is)
