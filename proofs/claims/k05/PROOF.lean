import PyProof.Rows.All
import Wide.All
import OpenK.AllK
import Wide.FinOn
import KE.KOpsOwn
import KE.KExcIs
import HandS.ForMost
import HandS.ForExc
import HandS.IsInst
import HandS.Property
import HandS.CallSlots
import HandS.ExcCtx
import HandS.HotCalls
import HandS.ExcField
import HandS.ExcIs
import HandS.Flow
import HandS.Wide
import HandS.Conv
import HandS.Defaults
import HandS.Star
import HandS.Zip
import HandS.ListItems
import KE.KDictZip
import KE.KOwnIter
import KE.KDictIter
import HandS.Walk
import HandS.TupAny
import HandS.ClsMeth
import HandS.Dict
import HandS.Iter
import KE.KParD
import KE.GoesMore
import KE.KIntText
import KE.IntTextLaws
import HandS.StrMore
import HandS.RaiseMore
import KE.RegKIsAll
import HandS.EndBits
import PySem.Challenge.RW_gangbooks_k05_amounts_times
set_option Elab.async false
set_option linter.all false
set_option maxRecDepth 100000
set_option maxHeartbeats 1000000
set_option synthInstance.maxSize 100000
set_option synthInstance.maxHeartbeats 1000000
/-! GA: defs, classes and own operators of the text, as rules of the hand layer; what a callee raises is wished for at the caller's slots. -/
namespace GG
open PySem L2 PyProof.Rows

/-- a def by its body, what it lets out having no context -/
theorem Fun.okN {P : Program} {w : World} {K : PySem.W.Frag} {mg : Str → Option Value} {base : Heap} {x qual : Str} {st : Stmt} {f : Addr} {fd : FuncData} {N ps : List Str} {k : Nat} {sp : Sp} (F : Fun K x qual st f fd) (S : FnScope N ps (defScope st)) (len : ∀ vs H Q E, sp vs H Q E → vs.length = ps.length)
    (hbody : ∀ (cdv : Value) (A : Around) (outer : List Env) (s : Shared) (H : Hp) (vs : List V) (Q : VK) (E : XK), Room k (A.deeper (envOfC qual (defScope st) s.heap.objs.size f cdv)) → sp vs H Q E →
      ∃ t, PSs (cxOf (L2N.CX P w) P w K mg base N qual (defScope st) f cdv A outer s H E) (defBody st) t ∧ t { nx := fun _ H' => Q .non H', rt := Q } (start N vs) H) : FnOk P w K mg base (L2N.CX P w) (k + 1) f fd ps sp := by
  obtain ⟨oc, od, kV, doc, pm, an, cdv, ct, osl, rfl, lk, hcd⟩ := F.ex
  exact fn_of lk hcd S len fun A outer s H vs Q E hr hsp => hbody cdv A outer s H vs Q E hr hsp
/-- .. called within an except suite -/
theorem Fun.okH {P : Program} {w : World} {K : PySem.W.Frag} {mg : Str → Option Value} {base : Heap} {x qual : Str} {st : Stmt} {f : Addr} {fd : FuncData} {N ps : List Str} {k : Nat} {sp : Sp} (F : Fun K x qual st f fd) (S : FnScope N ps (defScope st)) (len : ∀ vs H Q E, sp vs H Q E → vs.length = ps.length)
    (hbody : ∀ (cdv : Value) (A : Around) (outer : List Env) (s : Shared) (H : Hp) (vs : List V) (Q : VK) (E : XK) (p : Addr × Obj), L2H.Hot1 A p → L2H.RoomH k (A.deeper (envOfC qual (defScope st) s.heap.objs.size f cdv)) → sp vs H Q E →
      ∃ t, PSs (L2H.cxH (L2N.CX P w) P w K mg base N qual (defScope st) f cdv A outer s H E p) (defBody st) t ∧ t { nx := fun _ H' => Q .non H', rt := Q } (start N vs) H) : L2H.FnH P w K mg base (L2N.CX P w) (k + 1) f fd ps sp := by
  obtain ⟨oc, od, kV, doc, pm, an, cdv, ct, osl, rfl, lk, hcd⟩ := F.ex
  exact L2H.fn_ofH lk hcd S len fun A outer s H vs Q E p hot hr hsp => hbody cdv A outer s H vs Q E p hot hr hsp

/-! ### bundles: a def of the top, a special method, a method, a class that is made -/
structure Fn (P : Program) (w : World) (K : PySem.W.Frag) (mg : Str → Option Value) (base : Heap) (x : Str) (k : Nat) (ps : List Str) (dvs : List V) (sp : Sp) : Prop where
  ex : ∃ f fd ds, FnOk P w K mg base (L2N.CX P w) k f fd ps sp ∧ mg x = some (.ref f) ∧ PySem.W.keepIn K (.ref f) = true ∧ L2.Binds K fd ps ds ∧ Vals dvs ds
/-- the class at C has the special method name -/
structure Sm (P : Program) (w : World) (K : PySem.W.Frag) (mg : Str → Option Value) (base : Heap) (C : Addr) (name : Str) (k : Nat) (ps : List Str) (sp : Sp) : Prop where
  ex : ∃ f fd, FnOk P w K mg base (L2N.CX P w) k f fd ps sp ∧ PySem.W.findIn K (.ref C) name = some (some (.ref f)) ∧ PySem.W.isFn K (.ref f) = true ∧ L2.Binds K fd ps []
/-- the class at C has the method m -/
structure Mt (P : Program) (w : World) (K : PySem.W.Frag) (mg : Str → Option Value) (base : Heap) (C : Addr) (m : Str) (k : Nat) (ps : List Str) (dvs : List V) (sp : Sp) : Prop where
  ex : ∃ f fd ds, FnOk P w K mg base (L2N.CX P w) k f fd ps sp ∧ Meth K C m f ∧ L2.Binds K fd ps ds ∧ Vals dvs ds
  cls : Cls K C
/-- the class x, at C, is made by its __init__ -/
structure Mc (P : Program) (w : World) (K : PySem.W.Frag) (mg : Str → Option Value) (base : Heap) (x : Str) (C : Addr) (k : Nat) (ps : List Str) (dvs : List V) (sp : Sp) : Prop where
  ex : ∃ f fd ds, FnOk P w K mg base (L2N.CX P w) k f fd ps sp ∧ Mk K C f ∧ mg x = some (.ref C) ∧ L2.Binds K fd ps ds ∧ Vals dvs ds

/-- what a callee lets out is taken, at every slots -/
def Ps (X : Cx) (E : L2.St → XK) : Prop := ∀ σ, PassesAt (L2N.CX X.prog X.w) X σ (E σ)
theorem ps_of {X : Cx} {W : WX} (tk : L2N.Takes X W) : Ps X (WE W) := fun σ => L2N.passAt tk σ
/-- nothing is let out -/
abbrev W0 : WX := fun _ _ _ _ => False
theorem ps0 {X : Cx} : Ps X (WE W0) := fun _ _ _ _ _ _ _ h => by
  obtain ⟨_, _, _, _, _, _, _, _, _, _, _, _, z⟩ := h
  exact z.elim

section
variable {X : Cx} {CX : CXT} {k : Nat} {C f : Addr} {fd : FuncData} {ps : List Str} {sp : Sp} {E : L2.St → XK} {dvs : List V} {ds : List Value} {x m : Str} {p pos apos : Pos} {e o : Expr} {es : List Expr} {ta tb : TE} {t : TA} {a b : Expr}
/-- the callee runs somewhere below the body -/
theorem run_at {A : Around} {pins : List (Addr × Obj)} {σ : L2.St} {H : Hp} {s : Shared} {Q : VK} {E : XK} {us : List Value} {vs : List V} (F : FnOk X.prog X.w X.K X.mg X.base CX k f fd ps sp) (hr : Room k A) (fr : A.frames = X.A.frames) (hb : L2.Binds X.K fd ps ds) (hd : Vals dvs ds)
    (hx : PassesAt CX X σ E) (I : L2.Inv X pins σ H s) (r : Vals vs us) (h : sp (vs ++ dvs) H Q E) : wpAny (model X.prog X.w) A (call (.ref f) us) (EP X pins σ Q) X.xe s := by
  have e0 : Env0 X.prog X.w X.K X.mg X.base A X.stack s H := by
    have e := I.env0
    exact ⟨by rw [fr]; exact e.frames, e.mod, e.bs, e.bsz, e.funs, e.frf, e.hok, e.bare⟩
  have r2 : Vals (vs ++ dvs) (us ++ ds) := r.append hd
  have hl : (us ++ ds).length = ps.length := by rw [← r2.length]; exact F.len _ _ _ _ h
  refine wpAny_call (codeAny_mono (F.run A X.stack s H ⟨us, []⟩ (us ++ ds) (vs ++ dvs) Q E hr e0 (hb s us I.kIn hl) r2 h) fun r s' hq => ?_)
  cases r with
  | error e => exact hx pins H s e s' I hq
  | ok fl =>
    cases fl with
    | ret u => exact I.after hq
    | next => exact False.elim hq
    | brk => exact False.elim hq
    | cont => exact False.elim hq
/-- .. without defaults -/
theorem run_at0 {A : Around} {pins : List (Addr × Obj)} {σ : L2.St} {H : Hp} {s : Shared} {Q : VK} {E : XK} {us : List Value} {vs : List V} (F : FnOk X.prog X.w X.K X.mg X.base CX k f fd ps sp) (hr : Room k A) (fr : A.frames = X.A.frames) (hb : L2.Binds X.K fd ps [])
    (hx : PassesAt CX X σ E) (I : L2.Inv X pins σ H s) (r : Vals vs us) (h : sp vs H Q E) : wpAny (model X.prog X.w) A (call (.ref f) us) (EP X pins σ Q) X.xe s :=
  run_at (dvs := []) F hr fr hb .nil hx I r (by rw [List.append_nil]; exact h)

/-- f(e, ..) -/
theorem pe_fn (F : Fn X.prog X.w X.K X.mg X.base x k ps dvs sp) (hr : Room k X.A) (hx : Ps X E) (ha : PA X (e :: es) t) (hg : Gl X x := by rfl) (hdb : (x == ("__debug__" : Str)) = false := by decide)
    (he : starEach (e :: es) X.env = (false, eval e X.env) :: starEach es X.env := by rfl) (hpl : (backTo pos (starEach es X.env)).any (·.1) = false := by rfl) :
    PE X (.Call (.Name x p) (e :: es) [] pos) (tCallSD sp dvs E t) := by
  obtain ⟨f, fd, ds, F, hm, hk, hb, hd⟩ := F.ex
  exact pe_callSD F hr hg hm hk hb hd hx ha hdb he hpl

/-- o.m(e, ..), o.m() -/
def tMtS (C : Addr) (m : Str) (sp : Sp) (dvs : List V) (E : L2.St → XK) (ta : TE) (t : TA) : TE := fun σ H Q => ta σ H fun x H1 => ∃ a dx fs, x = .ref a ∧ H1 a = some (.ins C dx fs) ∧ fs.lookup m = none ∧
  t σ H1 fun vs H2 => sp (.ref a :: (vs ++ dvs)) H2 Q (E σ)
theorem pe_mt {pl : Sem Bool} (F : Mt X.prog X.w X.K X.mg X.base C m k ps dvs sp) (hr : Room k X.A) (hx : Ps X E) (he : PE X o ta) (ha : PA X (e :: es) t)
    (hst : starEach (e :: es) X.env = (false, eval e X.env) :: starEach es X.env := by rfl) (hpl : (backTo pos (starEach es X.env)).any (·.1) = false := by rfl)
    (ht : eval (.Call (.Attribute o m apos) (e :: es) [] pos) X.env = (do
      let ov ← eval o X.env
      standAt apos.atName
      let (f, first) ← holding [ov] (getMethod ov m pl)
      callWith pos f first (backTo pos (starEach (e :: es) X.env)) (backToKw pos (keywordEach [] X.env))) := by rfl) :
    PE X (.Call (.Attribute o m apos) (e :: es) [] pos) (tMtS C m sp dvs E ta t) := by
  obtain ⟨⟨f, fd, ds, F, hm, hb, hd⟩, c⟩ := F
  refine ⟨fun pins s σ H Q I h => ?_⟩
  refine PySem.W.methodCall_KW (pl := pl) (thn (he.run pins s σ H _ I h) fun u s1 ⟨x, H1, I1, rx, a, dx, fs, ex, ea, l, q⟩ => ?_) ht
  subst ex
  obtain rfl : u = Value.ref a := rx
  refine getmeth_ok I1 ea c hm l ?_
  refine PySem.W.callWith_K (first := [.ref a]) (h₀ := X.base) I.ok.mod.kin hm.kp (thn (ha.run pos pins s1 σ H1 _ I1 q) fun us s2 ⟨vs, H2, I2, r, q2⟩ => ⟨I2.kIn, ?_⟩) hst hpl
  exact run_at (us := .ref a :: us) (vs := .ref a :: vs) F hr rfl hb hd (hx σ) I2 (.cons rfl r) q2
theorem pe_mt0 {pl : Sem Bool} (F : Mt X.prog X.w X.K X.mg X.base C m k ps dvs sp) (hr : Room k X.A) (hx : Ps X E) (he : PE X o ta)
    (ht : eval (.Call (.Attribute o m apos) [] [] pos) X.env = (do
      let ov ← eval o X.env
      standAt apos.atName
      let (f, first) ← holding [ov] (getMethod ov m pl)
      callWith pos f first (backTo pos (starEach [] X.env)) (backToKw pos (keywordEach [] X.env))) := by rfl) :
    PE X (.Call (.Attribute o m apos) [] [] pos) (tMtS C m sp dvs E ta tNil) := by
  obtain ⟨⟨f, fd, ds, F, hm, hb, hd⟩, c⟩ := F
  refine ⟨fun pins s σ H Q I h => ?_⟩
  refine PySem.W.methodCall_KW (pl := pl) (thn (he.run pins s σ H _ I h) fun u s1 ⟨x, H1, I1, rx, a, dx, fs, ex, ea, l, q⟩ => ?_) ht
  subst ex
  obtain rfl : u = Value.ref a := rx
  refine getmeth_ok I1 ea c hm l ?_
  exact PySem.W.callWith_K0 (first := [.ref a]) I1.kIn hm.kp (run_at (us := [.ref a]) (vs := [.ref a]) F hr rfl hb hd (hx σ) I1 (.cons rfl .nil) q)

/-- C(e, ..): a new instance and its dict, then __init__ -/
def tMkS (C : Addr) (sp : Sp) (dvs : List V) (E : L2.St → XK) (t : TA) : TE := fun σ H Q => t σ H fun vs H1 => ∀ x dx, H1 x = none → H1 dx = none → dx ≠ x →
  sp (.ref x :: (vs ++ dvs)) (upd (upd H1 dx (.own x)) x (.ins C dx [])) (fun v H2 => v = .non ∧ Q (.ref x) H2) (E σ)
theorem run_mk {pins : List (Addr × Obj)} {σ : L2.St} {H : Hp} {s : Shared} {Q : VK} {E : XK} {us : List Value} {vs : List V} (M : Mk X.K C f) (F : FnOk X.prog X.w X.K X.mg X.base CX k f fd ps sp) (hr : Room (k + 1) X.A) (hb : L2.Binds X.K fd ps ds) (hd : Vals dvs ds)
    (hx : PassesAt CX X σ E) (I : L2.Inv X pins σ H s) (r : Vals vs us)
    (h : ∀ x dx, H x = none → H dx = none → dx ≠ x → sp (.ref x :: (vs ++ dvs)) (upd (upd H dx (.own x)) x (.ins C dx [])) (fun v H2 => v = .non ∧ Q (.ref x) H2) E) :
    wpAny (model X.prog X.w) X.A (call (.ref C) us) (EP X pins σ Q) X.xe s := by
  have hq := h (s.heap.objs.size + 1) s.heap.objs.size (I.hok.fresh (Nat.le_succ _)) (I.hok.fresh (Nat.le_refl _)) (Nat.ne_of_lt (Nat.lt_succ_self _))
  have I2 := Inv.made (C := C) I
  have r2 : Vals (V.ref (s.heap.objs.size + 1) :: (vs ++ dvs)) (Value.ref (s.heap.objs.size + 1) :: (us ++ ds)) := .cons rfl (r.append hd)
  have hl : (Value.ref (s.heap.objs.size + 1) :: us ++ ds).length = ps.length := by
    have e := r2.length
    rw [F.len _ _ _ _ hq] at e
    exact e.symm
  refine wpAny_call (make_map (f := f) I.kIn M.makes M.init (beq_iff_eq.mp M.fn) (codeAny_mono (F.run _ X.stack _ _ ⟨Value.ref (s.heap.objs.size + 1) :: us, []⟩
    (Value.ref (s.heap.objs.size + 1) :: (us ++ ds)) _ _ E (hr.make C us []) (I2.env0.make C us []) (hb _ (Value.ref (s.heap.objs.size + 1) :: us) I2.kIn hl) r2 hq) fun r s' hq' => ?_))
  cases r with
  | error e => exact hx pins _ _ e s' I2 hq'
  | ok fl =>
    cases fl with
    | ret u =>
      obtain ⟨v, H', I3, rv, ev, q3⟩ := I2.after hq'
      subst ev
      exact ⟨rv, ⟨V.ref (s.heap.objs.size + 1), H', I3, rfl, q3⟩⟩
    | next => exact False.elim hq'
    | brk => exact False.elim hq'
    | cont => exact False.elim hq'
theorem pe_mk (M : Mc X.prog X.w X.K X.mg X.base x C k ps dvs sp) (hr : Room (k + 1) X.A) (hx : Ps X E) (ha : PA X (e :: es) t) (hg : Gl X x := by rfl) (hdb : (x == ("__debug__" : Str)) = false := by decide)
    (he : starEach (e :: es) X.env = (false, eval e X.env) :: starEach es X.env := by rfl) (hpl : (backTo pos (starEach es X.env)).any (·.1) = false := by rfl) :
    PE X (.Call (.Name x p) (e :: es) [] pos) (tMkS C sp dvs E t) := by
  obtain ⟨f, fd, ds, F, M, hm, hb, hd⟩ := M.ex
  refine ⟨fun pins s σ H Q I h => ?_⟩
  refine wpAny_Call_Name_kw (ld_glob I hg hm ?_ hdb)
  refine PySem.W.callWith_K (h₀ := X.base) I.ok.mod.kin M.kp (thn (ha.run pos pins s σ H _ I h) fun us s1 ⟨vs, H1, I1, r, q⟩ => ⟨I1.kIn, ?_⟩) he hpl
  exact run_mk M F hr hb hd (hx σ) I1 r q

/-! ### operators with the slots -/
abbrev R2S := L2.St → R2
def OpS (X : Cx) (f : Value → Value → Sem Value) (r : R2S) : Prop :=
  ∀ (pins : List (Addr × Obj)) (s : Shared) (σ : L2.St) (H : Hp) (x y : V) (v u : Value) (Q : VK), L2.Inv X pins σ H s → RelV x v → RelV y u → r σ x y H Q →
    wpAny (model X.prog X.w) X.A (f v u) (EP X pins σ Q) X.xe s
def tOpS (r : R2S) (ta tb : TE) : TE := fun σ H Q => ta σ H fun x H1 => tb σ H1 fun y H2 => r σ x y H2 Q
theorem OpS.of {f : Value → Value → Sem Value} {r : R2} (h : OpR X f r) : OpS X f (fun _ => r) := fun pins s σ H x y v u Q I rx ry q => h pins s σ H x y v u Q I rx ry q
theorem OpS.or {f : Value → Value → Sem Value} {r r' : R2S} (h : OpS X f r) (h' : OpS X f r') : OpS X f (fun σ x y H Q => r σ x y H Q ∨ r' σ x y H Q) := fun pins s σ H x y v u Q I rx ry q => by
  rcases q with q | q
  · exact h pins s σ H x y v u Q I rx ry q
  · exact h' pins s σ H x y v u Q I rx ry q
theorem pe_opS {op : Operator} {r : R2S} (ho : OpS X (binaryOp op) r) (ha : PE X a ta) (hb : PE X b tb) : PE X (.BinOp a op b pos) (tOpS r ta tb) :=
  ⟨fun pins s σ H Q I h => wpAny_BinOp (binT ha hb I h fun v u s2 x y H2 I2 rx ry q => ho pins s2 σ H2 x y v u Q I2 rx ry q)⟩
theorem pe_cmpS {op : CmpOp} {r : R2S} (ho : OpS X (compareOp op) r) (ha : PE X a ta) (hb : PE X b tb) (hm : behindInMarks op b = false) : PE X (.Compare a [op] [b] pos) (tOpS r ta tb) :=
  ⟨fun pins s σ H Q I h => wpAny_Compare1 (binT ha hb I h fun v u s2 x y H2 I2 rx ry q => ho pins s2 σ H2 x y v u Q I2 rx ry q) hm⟩
theorem pt_cmpS {op : CmpOp} {r : R2S} (ho : OpS X (compareOp op) r) (ha : PE X a ta) (hb : PE X b tb) (hm : behindInMarks op b = false) : PT X (.Compare a [op] [b] pos) (tTest (tOpS r ta tb)) := by
  refine ⟨fun pins s σ H Q I h => wpAny_isTrue_Compare1 (thn (ha.run pins s σ H _ I h) fun v s1 ⟨x, H1, I1, r1, q1⟩ => thn (hb.run pins s1 σ H1 _ I1 q1) fun u s2 ⟨y, H2, I2, r2, q2⟩ =>
    thn (ho pins s2 σ H2 x y v u _ I2 r1 r2 q2) fun c s3 hz => ?_) hm⟩
  obtain ⟨z, H3, I3, r3, k, e, q3⟩ := hz
  subst e
  cases r3
  exact wpAny_truthy_bool ⟨H3, I3, q3⟩
def UnS (X : Cx) (f : Value → Sem Value) (r : L2.St → V → Hp → VK → Prop) : Prop :=
  ∀ (pins : List (Addr × Obj)) (s : Shared) (σ : L2.St) (H : Hp) (x : V) (v : Value) (Q : VK), L2.Inv X pins σ H s → RelV x v → r σ x H Q → wpAny (model X.prog X.w) X.A (f v) (EP X pins σ Q) X.xe s
def tUnS (r : L2.St → V → Hp → VK → Prop) (ta : TE) : TE := fun σ H Q => ta σ H fun x H1 => r σ x H1 Q
theorem UnS.of {f : Value → Sem Value} {r : V → Hp → VK → Prop} (h : UnR X f r) : UnS X f (fun _ => r) := fun pins s σ H x v Q I rx q => h pins s σ H x v Q I rx q
theorem pe_unS {op : UnaryOp} {r : L2.St → V → Hp → VK → Prop} (ho : UnS X (unaryOp op) r) (ha : PE X a ta) : PE X (.UnaryOp op a pos) (tUnS r ta) :=
  ⟨fun pins s σ H Q I h => UnaryOp_ (thn (ha.run pins s σ H _ I h) fun v s1 ⟨x, H1, I1, r1, q1⟩ => ho pins s1 σ H1 x v Q I1 r1 q1)⟩
/-- a call of a built-in by values, with the slots -/
def CallS (X : Cx) (f : Value) (r : L2.St → List V → Hp → VK → Prop) : Prop :=
  ∀ (pins : List (Addr × Obj)) (s : Shared) (σ : L2.St) (H : Hp) (xs : List V) (us : List Value) (Q : VK), L2.Inv X pins σ H s → Vals xs us → r σ xs H Q → wpAny (model X.prog X.w) X.A (call f us) (EP X pins σ Q) X.xe s
def tCBS (r : L2.St → List V → Hp → VK → Prop) (t : TA) : TE := fun σ H Q => t σ H fun vs H1 => r σ vs H1 Q
theorem CallS.of {f : Value} {r : List V → Hp → VK → Prop} (h : CallR X f r) : CallS X f (fun _ => r) := fun pins s σ H xs us Q I rx q => h pins s σ H xs us Q I rx q
theorem CallS.or {f : Value} {r r' : L2.St → List V → Hp → VK → Prop} (h : CallS X f r) (h' : CallS X f r') : CallS X f (fun σ xs H Q => r σ xs H Q ∨ r' σ xs H Q) := fun pins s σ H xs us Q I rx q => by
  rcases q with q | q
  · exact h pins s σ H xs us Q I rx q
  · exact h' pins s σ H xs us Q I rx q
theorem pe_callBS {id : String} {r : L2.St → List V → Hp → VK → Prop} (hc : CallS X (.builtin id) r) (hm : X.mg x = none) (hv : bootBuiltins x = some (.builtin id)) (ha : PA X (e :: es) t) (hg : Gl X x := by rfl) (hn : x ≠ "__name__" := by decide) (hdb : (x == ("__debug__" : Str)) = false := by decide)
    (he : starEach (e :: es) X.env = (false, eval e X.env) :: starEach es X.env := by rfl) (hpl : (backTo pos (starEach es X.env)).any (·.1) = false := by rfl) : PE X (.Call (.Name x p) (e :: es) [] pos) (tCBS r t) :=
  ⟨fun pins s σ H Q I h => wpAny_Call_Name_kw (ld_blt I hg hm hv (PyProof.Rows.callWith_builtin1 (thn (ha.run pos pins s σ H _ I h) fun us s1 ⟨vs, H1, I1, r1, q1⟩ => hc pins s1 σ H1 vs us Q I1 r1 q1) he hpl) hn hdb)⟩
theorem pe_callTS {T : String} {r : L2.St → List V → Hp → VK → Prop} (hc : CallS X (.type T) r) (hm : X.mg x = none) (hv : bootBuiltins x = some (.type T)) (ha : PA X (e :: es) t) (hg : Gl X x := by rfl) (hn : x ≠ "__name__" := by decide) (hdb : (x == ("__debug__" : Str)) = false := by decide)
    (he : starEach (e :: es) X.env = (false, eval e X.env) :: starEach es X.env := by rfl) (hpl : (backTo pos (starEach es X.env)).any (·.1) = false := by rfl) : PE X (.Call (.Name x p) (e :: es) [] pos) (tCBS r t) :=
  ⟨fun pins s σ H Q I h => wpAny_Call_Name_kw (ld_blt I hg hm hv (PyProof.Rows.callWith_type1 (thn (ha.run pos pins s σ H _ I h) fun us s1 ⟨vs, H1, I1, r1, q1⟩ => hc pins s1 σ H1 vs us Q I1 r1 q1) he hpl) hn hdb)⟩

/-! ### own operators -/
theorem inst_of {pins : List (Addr × Obj)} {σ : L2.St} {H : Hp} {s : Shared} {a dx : Addr} {fs : List (Str × V)} (I : L2.Inv X pins σ H s) (ea : H a = some (.ins C dx fs)) : ∃ ox od, PySem.W.InstAt s.heap a ox C od := by
  obtain ⟨mA, J, _⟩ := ins_get I.hok ea
  obtain ⟨od, J, _⟩ := J.look
  exact ⟨_, _, J⟩
theorem cmpBack_ep {pins : List (Addr × Obj)} {σ : L2.St} {Q : VK} {u : Value} {s' : Shared} (h : EP X pins σ Q u s') : PySem.W.CmpBack (EP X pins σ Q) u s' := by
  obtain ⟨v, H', I, r, q⟩ := id h
  cases v with
  | non => cases (show u = _ from r); exact h
  | bl b => cases (show u = _ from r); exact h
  | int i => obtain ⟨t, e⟩ := (show ∃ t, u = Value.int i t from r); cases e; exact h
  | str i => obtain ⟨t, e⟩ := (show ∃ t, u = Value.str i t from r); cases e; exact h
  | byt i => obtain ⟨t, e⟩ := (show ∃ t, u = Value.bytes i t from r); cases e; exact h
  | flt i => obtain ⟨t, e⟩ := (show ∃ t, u = Value.float i t from r); cases e; exact h
  | ref a => cases (show u = _ from r); exact h
  | ty a => cases (show u = _ from r); exact h

/-- x op y, both instances of the class at C -/
def rOwn (C : Addr) (sp : Sp) (E : L2.St → XK) : R2S := fun σ x y H Q => ∃ a dx fs b dy gs, x = .ref a ∧ H a = some (.ins C dx fs) ∧ y = .ref b ∧ H b = some (.ins C dy gs) ∧ sp [.ref a, .ref b] H Q (E σ)
theorem op_own {op : Operator} (S : Sm X.prog X.w X.K X.mg X.base C (PySem.dunder op.info.2) k ps sp) (hr : Room k X.A) (hx : Ps X E) (hc : PySem.W.selfFirst X.K C = true) : OpS X (binaryOp op) (rOwn C sp E) := by
  intro pins s σ H x y v u Q I rx ry hq
  obtain ⟨f, fd, F, hs, hf, hb⟩ := S.ex
  obtain ⟨a, dx, fs, b, dy, gs, rfl, ha, rfl, hb', q⟩ := hq
  cases rx
  cases ry
  obtain ⟨_, _, J⟩ := inst_of I ha
  obtain ⟨_, _, J'⟩ := inst_of I hb'
  obtain ⟨m, hF⟩ := I.fr
  refine PySem.W.binop_K hF I.ok.mod.kin J J'.type hc hs hf ?_
  exact thn (run_at0 (vs := [.ref a, .ref b]) F hr rfl hb (hx σ) I (.cons rfl (.cons rfl .nil)) q) fun _ _ z => cmpBack_ep z
/-- what the walk asks of a built-in type at the right of an own operator -/
structure RightT (K : PySem.W.Frag) (C : Addr) (T nm : String) : Prop where
  r1 : ∃ fo, PySem.W.findIn K (.type T) (PySem.dunder nm) = some fo
  r2 : ∃ ro, PySem.W.findIn K (.type T) (dunderR nm) = some ro
  rc : ∃ rc, PySem.W.findIn K (.ref C) (dunderR nm) = some rc ∧ (rc = none ∨ ∃ g : Addr, rc = some (.ref g))
  sub : PySem.W.subIn K (.type T) (.ref C) = some false
/-- x op y, y an int -/
def rOwnI (C : Addr) (sp : Sp) (E : L2.St → XK) : R2S := fun σ x y H Q => ∃ a dx fs i, x = .ref a ∧ H a = some (.ins C dx fs) ∧ y = .int i ∧ sp [.ref a, .int i] H Q (E σ)
theorem op_ownI {op : Operator} (S : Sm X.prog X.w X.K X.mg X.base C (PySem.dunder op.info.2) k ps sp) (hr : Room k X.A) (hx : Ps X E) (hc : PySem.W.selfFirst X.K C = true) (hi : RightT X.K C "int" op.info.2) : OpS X (binaryOp op) (rOwnI C sp E) := by
  intro pins s σ H x y v u Q I rx ry hq
  obtain ⟨f, fd, F, hs, hf, hb⟩ := S.ex
  obtain ⟨a, dx, fs, i, rfl, ha, rfl, q⟩ := hq
  cases rx
  obtain ⟨t, rfl⟩ := (show ∃ t, u = Value.int i t from ry)
  obtain ⟨_, _, J⟩ := inst_of I ha
  obtain ⟨m, hF⟩ := I.fr
  obtain ⟨fo, h1⟩ := hi.r1
  obtain ⟨ro, h2⟩ := hi.r2
  obtain ⟨rc, h3, h4⟩ := hi.rc
  refine PySem.W.ksp_binT hF I.ok.mod.kin J (T := "int") rfl hc hs hf h3 h4 h1 h2 hi.sub ?_
  exact thn (run_at0 (vs := [.ref a, .int i]) F hr rfl hb (hx σ) I (.cons rfl (.cons ⟨t, rfl⟩ .nil)) q) fun _ _ z => cmpBack_ep z
/-- x == y by the text's own ==, y an instance of the same class -/
theorem op_ownEq (S : Sm X.prog X.w X.K X.mg X.base C "__eq__" k ps sp) (hr : Room k X.A) (hx : Ps X E) : OpS X (compareOp .Eq) (rOwn C sp E) := by
  intro pins s σ H x y v u Q I rx ry hq
  obtain ⟨f, fd, F, hs, hf, hb⟩ := S.ex
  obtain ⟨a, dx, fs, b, dy, gs, rfl, ha, rfl, hb', q⟩ := hq
  cases rx
  cases ry
  obtain ⟨_, _, J⟩ := inst_of I ha
  obtain ⟨_, _, J'⟩ := inst_of I hb'
  obtain ⟨m, hF⟩ := I.fr
  show wpAny (model X.prog X.w) X.A (richCompare .Eq _ _) (EP X pins σ Q) X.xe s
  refine PySem.W.cmp_K (op := .Eq) (tb := .ref C) hr.units0 hF I.ok.mod.kin J J'.type (by simp [PySem.W.notFirst]) hs hf ?_
  exact thn (run_at0 (vs := [.ref a, .ref b]) F hr rfl hb (hx σ) I (.cons rfl (.cons rfl .nil)) q) fun _ _ z => cmpBack_ep z
/-- y in x by the text's own __contains__, which gives a bool -/
def rOwnIn (C : Addr) (sp : Sp) (E : L2.St → XK) : R2S := fun σ y x H Q => ∃ a dx fs, x = .ref a ∧ H a = some (.ins C dx fs) ∧ sp [.ref a, y] H (fun v H' => ∃ c, v = .bl c ∧ Q (.bl c) H') (E σ)
theorem op_ownIn (S : Sm X.prog X.w X.K X.mg X.base C "__contains__" k ps sp) (hr : Room k X.A) (hx : Ps X E) : OpS X (compareOp .In) (rOwnIn C sp E) := by
  intro pins s σ H y x v u Q I ry rx hq
  obtain ⟨f, fd, F, hs, hf, hb⟩ := S.ex
  obtain ⟨a, dx, fs, rfl, ha, q⟩ := hq
  cases rx
  obtain ⟨_, _, J⟩ := inst_of I ha
  obtain ⟨m, hF⟩ := I.fr
  refine PySem.W.in_K hF I.ok.mod.kin J hs hf ?_
  refine thn (run_at0 (vs := [.ref a, y]) F hr rfl hb (hx σ) I (.cons rfl (.cons ry .nil)) q) fun r s' z => ?_
  obtain ⟨w', H', I', rw', c, ec, q'⟩ := z
  subst ec
  cases rw'
  exact wpAny_truthy_bool ⟨.bl c, H', I', rfl, q'⟩
/-- -x by the text's own __neg__ -/
def rOwn1 (C : Addr) (sp : Sp) (E : L2.St → XK) : L2.St → V → Hp → VK → Prop := fun σ x H Q => ∃ a dx fs, x = .ref a ∧ H a = some (.ins C dx fs) ∧ sp [.ref a] H Q (E σ)
theorem un_own (S : Sm X.prog X.w X.K X.mg X.base C "__neg__" k ps sp) (hr : Room k X.A) (hx : Ps X E) : UnS X (unaryOp .USub) (rOwn1 C sp E) := by
  intro pins s σ H x v Q I rx hq
  obtain ⟨f, fd, F, hs, hf, hb⟩ := S.ex
  obtain ⟨a, dx, fs, rfl, ha, q⟩ := hq
  cases rx
  obtain ⟨_, _, J⟩ := inst_of I ha
  obtain ⟨m, hF⟩ := I.fr
  refine PySem.W.ksp_neg hF I.ok.mod.kin J hs hf ?_
  exact run_at0 (vs := [.ref a]) F hr rfl hb (hx σ) I (.cons rfl .nil) q
/-- abs(x) by the text's own __abs__ -/
def rOwnC (C : Addr) (sp : Sp) (E : L2.St → XK) : L2.St → List V → Hp → VK → Prop := fun σ xs H Q => ∃ a dx fs, xs = [.ref a] ∧ H a = some (.ins C dx fs) ∧ sp [.ref a] H Q (E σ)
theorem call_ownAbs (S : Sm X.prog X.w X.K X.mg X.base C "__abs__" k ps sp) (hr : Room (k + 1) X.A) (hx : Ps X E) : CallS X (.builtin "abs") (rOwnC C sp E) := by
  intro pins s σ H xs us Q I r hq
  obtain ⟨f, fd, F, hs, hf, hb⟩ := S.ex
  obtain ⟨a, dx, fs, rfl, ha, q⟩ := hq
  obtain ⟨u, rfl, rx⟩ := vals1 r
  cases rx
  obtain ⟨_, _, J⟩ := inst_of I ha
  obtain ⟨m, hF⟩ := I.fr
  refine PySem.Calls.call_function_entry kind_abs plain_abs entry_abs (args_abs _) ?_
  unfold Builtin.«abs»
  refine wpAny_bind (m := oneArg "abs" _) (wpAny_pure ?_)
  refine wpAny_bind (m := callSpecial? (.ref a) (Str.ofString "__abs__")) (PySem.W.special_fn I.kIn J hs (beq_iff_eq.mp hf) (wpAny_mono (run_at0 (vs := [.ref a]) F hr.in1 rfl hb (hx σ) I (.cons rfl .nil) q) (fun r s' hr => ?_) fun _ _ y => y))
  exact wpAny_pure ⟨_, rfl, hr⟩
/-- len(x) by the text's own __len__ -/
def rOwnLen (C : Addr) (sp : Sp) (E : L2.St → XK) : L2.St → List V → Hp → VK → Prop := fun σ xs H Q => ∃ a dx fs, xs = [.ref a] ∧ H a = some (.ins C dx fs) ∧ sp [.ref a] H (fun v H' => ∃ n : Int, v = .int n ∧ 0 ≤ n ∧ n < 2 ^ 63 ∧ Q (.int n) H') (E σ)
theorem call_ownLen (S : Sm X.prog X.w X.K X.mg X.base C "__len__" k ps sp) (hr : Room (k + 1) X.A) (hx : Ps X E) : CallS X (.builtin "len") (rOwnLen C sp E) := by
  intro pins s σ H xs us Q I r hq
  obtain ⟨f, fd, F, hs, hf, hb⟩ := S.ex
  obtain ⟨a, dx, fs, rfl, ha, q⟩ := hq
  obtain ⟨u, rfl, rx⟩ := vals1 r
  cases rx
  obtain ⟨_, _, J⟩ := inst_of I ha
  obtain ⟨m, hF⟩ := I.fr
  refine PySem.W.len_K hF I.ok.mod.kin J hs hf ?_
  refine thn (run_at0 (vs := [.ref a]) F hr.in1 rfl hb (hx σ) I (.cons rfl .nil) q) fun r s' z => ?_
  obtain ⟨v, H', I', rv, n, rfl, h0, h1, q'⟩ := z
  obtain ⟨t, rfl⟩ := (show ∃ t, r = Value.int n t from rv)
  exact ⟨⟨h0, h1⟩, .int n, H', I'.tok _, ⟨_, rfl⟩, q'⟩
/-- the truth of x by the text's own __bool__ -/
theorem truthy_own {A : Around} {pins : List (Addr × Obj)} {σ : L2.St} {H : Hp} {s : Shared} {Q : Bool → Hp → Prop} {a dx : Addr} {fs : List (Str × V)} (S : Sm X.prog X.w X.K X.mg X.base C "__bool__" k ps sp) (hr : Room k A) (fr : A.frames = X.A.frames) (hx : Ps X E)
    (I : L2.Inv X pins σ H s) (ha : H a = some (.ins C dx fs)) (q : sp [.ref a] H (fun v H' => ∃ c, v = .bl c ∧ Q c H') (E σ)) : wpAny (model X.prog X.w) A (truthy (.ref a)) (TP X pins σ Q) X.xe s := by
  obtain ⟨f, fd, F, hs, hf, hb⟩ := S.ex
  obtain ⟨_, _, J⟩ := inst_of I ha
  obtain ⟨m, hF⟩ := I.fr
  refine PySem.W.truthy_K hF I.ok.mod.kin J hs hf ?_
  refine thn (run_at0 (vs := [.ref a]) F hr fr hb (hx σ) I (.cons rfl .nil) q) fun r s' z => ?_
  obtain ⟨v, H', I', rv, c, rfl, q'⟩ := z
  cases (show r = _ from rv)
  exact ⟨H', I', q'⟩
/-- bool(x) -/
def rOwnB (C : Addr) (sp : Sp) (E : L2.St → XK) : L2.St → List V → Hp → VK → Prop := fun σ xs H Q => ∃ a dx fs, xs = [.ref a] ∧ H a = some (.ins C dx fs) ∧ sp [.ref a] H (fun v H' => ∃ c, v = .bl c ∧ Q (.bl c) H') (E σ)
theorem call_ownBool (S : Sm X.prog X.w X.K X.mg X.base C "__bool__" k ps sp) (hr : Room (k + 2) X.A) (hx : Ps X E) : CallS X (.type "bool") (rOwnB C sp E) := by
  intro pins s σ H xs us Q I r hq
  obtain ⟨a, dx, fs, rfl, ha, q⟩ := hq
  obtain ⟨u, rfl, rx⟩ := vals1 r
  cases rx
  refine callType_newIn PySem.F.called_bool PySem.F.newNe_bool (PySem.F.typeCall_bool_1 _) (PySem.F.newCall_bool_1 _) (fun obj => PySem.F.args_object_init_2 obj _) PySem.F.entry_bool_new
    (S := fun A' R s' => A' = X.A.in1 ∧ s' = s ∧ R = wants (fun obj s₁ => s₁.TypeIs obj "bool" ∧ EP X pins σ Q obj s₁) X.xe) ?_ ⟨rfl, rfl, rfl⟩
  intro A' R s' h'
  obtain ⟨rfl, rfl, rfl⟩ := h'
  have f1 := PySem.F.conv_sub_bool
  unfold Builtin.«bool.__new__»
  have key := truthy_own (A := X.A.in1.in1) (Q := fun c H' => Q (.bl c) H') S (hr.in1.in1) rfl hx I ha q
  have key' : ∀ Q' : Bool → Shared → Prop, (∀ c s2, TP X pins σ (fun c H' => Q (.bl c) H') c s2 → Q' c s2) → wpAny (model X.prog X.w) X.A.in1.in1 (truthy (Value.ref a)) Q' X.xe s' := fun Q' h => thn key h
  have k2 : ∀ c s2, TP X pins σ (fun c H' => Q (.bl c) H') c s2 → (s2.TypeIs (.bool c) "bool" ∧ EP X pins σ Q (.bool c) s2) := fun c s2 z => by
    obtain ⟨H', I', q'⟩ := z
    exact ⟨rfl, .bl c, H', I', rfl, q'⟩
  clear key q I ha hx r
  obtain ⟨hp, g, d, tk, os⟩ := s'
  refine wpAny_bind ?_
  repeat (any_goals (first | assumption | ((with_reducible show wpAny _ _ (truthy _ >>= _) _ _ _); refine wpAny_bind (key' _ fun c s2 z => ?_)) | wp_step))
  all_goals exact k2 _ _ z
end
end GG

/-! GX: the text's errors (classes under GangError, whose __init__ stores the subject): raised, caught, asked. -/
namespace PySem
namespace GErr
open PySem.W PySem.Calls PyProof.Rows PySem.HandSPX
def iA (p1 p2 : Pos) : Arguments := { posonlyargs := [], args := [{ arg := "self", annotation := none, pos := p1 }, { arg := "subject", annotation := none, pos := p2 }], vararg := none, kwonlyargs := [], kw_defaults := [], kwarg := none, defaults := [] }
def iB (q1 q2 q3 q4 : Pos) : List Stmt := [.Assign [.Attribute (.Name "self" q1) "subject" q2] (.Name "subject" q3) q4]
def iS : Scope := { kind := .function, names := [(PySem.Str.ofString "self", .local), (PySem.Str.ofString "subject", .local)], isGenerator := false, isCoroutine := false, more := [] }
/-- what the written part says of the error class x, at C, whose __init__ is GangError's, at fI -/
structure ErrTxt (K : Frag) (mg : Str → Option Value) (x : Str) (C fI : Addr) : Prop where
  gC : mg x = some (.ref C)
  cls : ∃ nm q N bs bm sn sub ab col dd k0 k1 k2 k3 k5, K.lookup C = some (excClassObj nm q C N bs bm true sn sub ab col dd k0 k1 k2 k3 k5 "ValueError.__new__") ∧ refsVE bm = true
  sa : findIn K (.ref C) "__setattr__" = some (some (.builtin "object.__setattr__"))
  ga : findIn K (.ref C) "__getattribute__" = some (some (.builtin "BaseException.__getattribute__"))
  gg : findIn K (.ref C) "__getattr__" = some none
  noN : findIn K (.ref C) "subject" = some none
  iC : findIn K (.ref C) "__init__" = some (some (.ref fI))
  tC : typeIn K (.ref fI) = some (.type "function")
  kC : keepIn K (.ref C) = true
  exC : subIn K (.ref C) (.type "BaseException") = some true
  tyC : typeIn K (.ref C) = some (.type "type")
  hdC : hasDictIn K C = true
  haC : findIn K (.ref C) "__class__" = some (some (.builtin "object.__class__"))
  hnC : specialIn K (.builtin "object.__class__") "__get__" = some (some (.builtin "getset_descriptor.__get__"))
  htC : takesIn K (.builtin "object.__class__") = some true
  hmC : mroIn K C (.type "object") = some true
  fn : ∃ (oc : Value) (od : Option Addr) (doc pm : Value) (an : Option Addr) (cdv ct : Value) (osl : Array (Option Value)) (p1 p2 q1 q2 q3 q4 : Pos),
    K.lookup fI = some ⟨oc, od, .func (fnOf "__init__" "GangError.__init__" (iA p1 p2) (iB q1 q2 q3 q4) iS .none .none doc pm an cdv ct), osl⟩ ∧ codeIn K cdv "GangError.__init__" = true
theorem one_size (v : Value) : [v].length ≤ sizeLine := by
  rw [sizeLine_eq]
  exact (by decide : 1 ≤ 16777216)
theorem ldC {M : Model} {s : Shared} {name : Str} {scope : Scope} {L a : Addr} {cd : Value} {m : Str → Option Value} {x : Str} {pos : Pos} {v : Value} {Q : Value → Shared → Prop} {A : Around} {E : Value → Shared → Prop} (hn : s.heap.Ns L m) (hv : m x = some v) (h : Q v s)
    (hk : scope.kind = .function := by rfl) (hl : (envOfC name scope L a cd).kindOf x = some .local := by rfl) (hd : (x == ("__debug__" : Str)) = false := by decide) :
    wpAny M A (eval (.Name x pos) (envOfC name scope L a cd)) Q E s := wpAny_Name (wpAny_loadName_local hk hl hn hv h) hd
/-- what __init__ leaves of a fresh exception at x -/
structure InitEnd (h h' : Heap) (x C dx t1 : Addr) (v : Value) : Prop where
  keep : ∀ b o, b ≠ x → h.get? b = some o → h'.get? b = some o
  obj : h'.get? x = some { cls := .ref C, dict := some dx, data := .fields #[.ref t1, .none, .none, .none, .bool false, .none] }
  dbig : h.objs.size ≤ dx
  dne : dx ≠ x
  ns : h'.Ns1 dx (fun y => if y = "subject" then some v else none)
/-- a made error -/
structure OwnMade (h h' : Heap) (e C d : Addr) (v : Value) : Prop where
  keep : ∀ b o, h.get? b = some o → h'.get? b = some o
  new : h.objs.size ≤ e
  obj : ∃ oe vs, h'.get? e = some oe ∧ oe.cls = .ref C ∧ oe.dict = some d ∧ oe.data = .fields vs ∧ vs[1]? = some .none ∧ vs[2]? = some .none
  dbig : h.objs.size ≤ d
  dne : d ≠ e
  ns : h'.Ns1 d (fun y => if y = "subject" then some v else none)
section
variable {prog : Program} {w : World} {A : Around} {E : Value → Shared → Prop} {R : Result → Shared → Prop} {s : Shared} {K : Frag} {mg : Str → Option Value} {xn : Str} {C fI : Addr}
theorem err_init (T : ErrTxt K mg xn C fI) {x t0 : Addr} {v : Value} (X : K.In s.heap) (hlim : s.heap.NoLimit) (hx : s.heap.get? x = some (excO C t0)) (hnx : K.lookup x = none) (hroom : A.depth < recursionLimit)
    (hq : ∀ h' tk dx, InitEnd s.heap h' x C dx t0 v → R (.ok (.ret .none)) { s with heap := h', toks := tk }) :
    codeAny (model prog w) A (.call (.ref fI) ⟨[.ref x, v], []⟩) R s := by
  obtain ⟨oc, od, doc, pm, an, cdv, ct, osl, p1, p2, q1, q2, q3, q4, ho, hcd⟩ := T.fn
  obtain ⟨nm, q, N, bs, bm, sn, sub, ab, col, dd, k0, k1, k2, k3, k5, hC, hbm⟩ := T.cls
  have hcl : clsIn K C = some { name := nm, bases := bs, mro := .ref C :: bm, ns := N, qualname := q, hasDict := true, slotNames := sn, subclasses := sub, abstract := ab, collection := col, hasDel := false } := by unfold clsIn; rw [hC] <;> rfl
  refine Att.call_fn (binds := [("self", .ref x), ("subject", v)]) X hlim ho hcd hroom (BindsTo.of_eq (by first | rfl | with_unfolding_all rfl)) (by first | rfl | decide | with_unfolding_all rfl) (fun s₁ IC => ?_) rfl rfl rfl
  obtain ⟨h₁, tk₁, rfl⟩ := IC.toInCall.same
  have k : ∀ b o, s.heap.get? b = some o → h₁.get? b = some o := IC.toInCall.keep
  have hn := IC.toInCall.ns
  have hxL : s.heap.objs.size ≠ x := Nat.ne_of_gt (Heap.lt_size hx)
  have X₁ : K.In h₁ := X.keeps k
  have hx₁ := k _ _ hx
  show wpAny _ _ (execs _ _) _ _ _
  refine wpAny_execs_cons (plainObj_wpAny_Assign_Attribute ?_)
  refine ldC (v := v) hn (by first | rfl | with_unfolding_all rfl | kernel_rfl) (ldC (v := .ref x) hn (by first | rfl | with_unfolding_all rfl | kernel_rfl) ?_)
  refine set_plain X₁ (ox := excO C t0) (od := none) ⟨hx₁, rfl, rfl, trivial⟩ T.sa ?_
  refine exc_osa X₁ hx₁ hcl (show refsVE (.ref C :: bm) = true from hbm) rfl T.noN (fun h₃ tk₃ dx k₃ dn dne hx₃ hn₃ => ?_)
  show wpAny _ _ (execs _ _) _ _ _
  have z : s.heap.objs.size < h₁.objs.size := hn.lt
  exact wpAny_execs_nil (hq h₃ tk₃ dx ⟨fun b o hb e => k₃ b o hb (k b o e), hx₃, Nat.le_of_lt (Nat.lt_of_lt_of_le z dn), dne, hn₃⟩)
theorem err_made (T : ErrTxt K mg xn C fI) {v : Value} (X : K.In s.heap) (hlim : s.heap.NoLimit) (hroom : A.depth + 1 < recursionLimit)
    (hq : ∀ h' tk e d, OwnMade s.heap h' e C d v → R (.ok (.ret (.ref e))) { s with heap := h', toks := tk }) :
    codeAny (model prog w) A (.call (.ref C) ⟨[v], []⟩) R s := by
  obtain ⟨nm, q, N, bs, bm, sn, sub, ab, col, dd, k0, k1, k2, k3, k5, hC, hbm⟩ := T.cls
  obtain ⟨hp, g, dr, tk, os⟩ := s
  have k : ∀ b o, hp.get? b = some o → ((hp.push (kdv_tup [v])).push (excO C hp.objs.size)).get? b = some o := fun b o e => Heap.get?_push_of_some _ (Heap.get?_push_of_some _ e)
  have hget : ((hp.push (kdv_tup [v])).push (excO C hp.objs.size)).get? (hp.objs.size + 1) = some (excO C hp.objs.size) := by heap_get
  have hnx : K.lookup (hp.objs.size + 1) = none := by
    cases e : K.lookup (hp.objs.size + 1) with
    | none => rfl
    | some o =>
      have z : hp.get? (hp.objs.size + 1) = some o := X _ _ e
      exact absurd (Nat.lt_of_succ_lt (Heap.lt_size z)) (Nat.lt_irrefl _)
  refine call_own F.excBase_ValueError (fun X => refsVE_contains X bm hbm) (X _ _ hC) (looks_findIn X T.iC) (fun self => bind_fn X self T.tC) (one_size v) ?_
  refine err_init (s := ⟨(hp.push (kdv_tup [v])).push (excO C hp.objs.size), g, dr, tk, os⟩) T (X.keeps k) (hlim.keeps k) hget hnx ?_ fun h' tk' dx ⟨k', hx, dn, dne, hns⟩ => ?_
  · show A.depth + 1 < recursionLimit
    exact hroom
  · have old : ∀ b o, hp.get? b = some o → h'.get? b = some o := fun b o e => k' b o (Nat.ne_of_lt (Nat.lt_succ_of_lt (Heap.lt_size e))) (k b o e)
    have z : hp.objs.size + 1 + 1 ≤ dx := by
      first
        | (simpa only [Heap.size_push] using dn)
        | exact dn
        | (have q := dn; rw [Heap.size_push, Heap.size_push] at q; exact q)
    exact ⟨rfl, hq h' tk' (hp.objs.size + 1) dx ⟨old, Nat.le_succ _, ⟨_, _, hx, rfl, rfl, rfl, rfl, rfl⟩, Nat.le_trans (Nat.le_trans (Nat.le_succ _) (Nat.le_succ _)) z, dne, hns⟩⟩
end
end GErr
end PySem
namespace GG
open PySem L2 PyProof.Rows
abbrev subj (v : V) : List (Str × V) := [(("subject" : Str), v)]
theorem relO_subj {v : V} {v' : Value} (r : RelV v v') (f : Str) : RelO (List.lookup f (subj v)) (if f = "subject" then some v' else none) := by
  by_cases hw : f = "subject"
  · subst hw
    rw [if_pos rfl]
    have q : List.lookup ("subject" : Str) (subj v) = some v := by simp [List.lookup]
    rw [q]
    exact r
  · rw [if_neg hw]
    have qw : (f == ("subject" : Str)) = false := by simpa using hw
    have q2 : List.lookup f (subj v) = none := by simp [List.lookup, qw]
    rw [q2]
    trivial
section
variable {X : Cx} {C fI : Addr} {xn : Str}
/-- Err(e) -/
def tMkErr (C : Addr) (ta : TA) : L2.St → Hp → XK → Prop := fun σ H Q => ta σ H fun vs H1 => ∃ v, vs = [v] ∧ ∀ d, H1 d = none → Q (.ref C) (some d) (upd H1 d (.xd (subj v)))
theorem pmk_err {a : Expr} {ta : TA} {p pos : Pos} {k : Nat} (T : PySem.GErr.ErrTxt X.K X.mg xn C fI) (hr : Room k X.A) (ha : PA X [a] ta) (hg : Gl X xn := by rfl) (hdb : (xn == ("__debug__" : Str)) = false := by decide)
    (he : starEach (a :: []) X.env = (false, eval a X.env) :: starEach [] X.env := by rfl) (hpl : (backTo pos (starEach [] X.env)).any (·.1) = false := by rfl) :
    L2N.PMk X (.Call (.Name xn p) [a] [] pos) (tMkErr C ta) := by
  intro pins s σ H Q I h
  refine wpAny_Call_Name_kw (ld_glob I hg T.gC ?_ hdb)
  refine PySem.W.callWith_K (h₀ := X.base) I.ok.mod.kin T.kC (thn (ha.run pos pins s σ H _ I h) fun us s1 hh => ?_) he hpl
  obtain ⟨vs, H1, I1, r1, v, ev, q1⟩ := hh
  subst ev
  refine ⟨I1.kIn, ?_⟩
  cases r1 with
  | cons rv rn =>
    rename_i v' us'
    cases rn
    show wpAny _ _ (call (.ref C) [v']) _ _ _
    have hlim := I1.nolimit
    obtain ⟨hp, g, dr, tk, os⟩ := s1
    refine wpAny_call (PySem.GErr.err_made T I1.kIn hlim (by have := hr.dp; omega) fun h' tk' e d M => ?_)
    show L2N.MkP X pins σ Q (.ref e) ⟨h', g, dr, tk', os⟩
    obtain ⟨oe, fv, hoe, hc, hd, hdat, h1, h2⟩ := M.obj
    have hns := M.ns
    obtain ⟨G', g1, g2⟩ := restrict h' fun b => decide (b ≠ e)
    have gk : ∀ b, b ≠ e → G'.get? b = h'.get? b := fun b hb => g1 b (decide_eq_true hb)
    have ge : G'.get? e = none := g2 e (by simp)
    have old : ∀ b o, hp.get? b = some o → G'.get? b = some o := fun b o q => (gk b (Nat.ne_of_lt (Nat.lt_of_lt_of_le (Heap.lt_size q) M.new))).trans (M.keep b o q)
    have ob : ObjOk X.prog X.w (upd H1 d (.xd (subj v))) G' d (.xd (subj v)) :=
      ⟨_, hns.at (fun o q => (gk d M.dne).trans q), fun f => relO_subj rv f⟩
    have J : L2.Inv X pins σ (upd H1 d (.xd (subj v))) ⟨G', g, dr, tk', os⟩ := I1.laid (t' := tk') old M.dbig ob
    refine ⟨e, oe, fv, ⟨G', g, dr, tk', os⟩, _, .ref C, some d, rfl, J, fun b o q => ?_, ge, hoe, ⟨hc, hd, fun vs e => by rw [hdat] at e; cases e; exact h2⟩, hdat, h1, ?_, rfl, I1.bare, raises_own T.exC T.tyC, q1 d (I1.hok.fresh M.dbig)⟩
    · by_cases hb : b = e
      · have q' : G'.get? b = some o := q
        rw [hb, ge] at q'; cases q'
      · exact (gk b hb).symm.trans q
    · rw [upd_ne (Ne.symm M.dne)]
      exact I1.hok.fresh M.new
/-- raise Err(e) -/
def tRaiseErr (C : Addr) (W : WX) (ta : TA) : TS := fun _ σ H => tMkErr C ta σ H fun cls d H' => W cls d σ H'
theorem ps_raiseErr {a : Expr} {ta : TA} {W : WX} {p pos pos2 : Pos} {k : Nat} (T : PySem.GErr.ErrTxt X.K X.mg xn C fI) (hr : Room k X.A) (tk : L2N.Takes X W) (ha : PA X [a] ta) (hc : X.calm = true := by rfl) (hg : Gl X xn := by rfl) (hdb : (xn == ("__debug__" : Str)) = false := by decide)
    (he : starEach (a :: []) X.env = (false, eval a X.env) :: starEach [] X.env := by rfl) (hpl : (backTo pos (starEach [] X.env)).any (·.1) = false := by rfl) :
    PS X (.Raise (some (.Call (.Name xn p) [a] [] pos)) none pos2) (tRaiseErr C W ta) := L2N.ps_raise hc tk (pmk_err T hr ha hg hdb he hpl)
/-- e.subject, e the exception that the suite holds (at a; its class cls, its dict d) -/
def tSubj (K : PySem.W.Frag) (mg : Str → Option Value) (a : Addr) (cls : Value) (d : Option Addr) (te : TE) : TE := fun σ H Q => te σ H fun x H1 => x = .ref a ∧ ∃ (n : Str) (C fI dd : Addr) (v : V), cls = .ref C ∧ PySem.GErr.ErrTxt K mg n C fI ∧ d = some dd ∧ H1 dd = some (.xd (subj v)) ∧ Q v H1
theorem pe_subj (K : PySem.W.Frag) (mg : Str → Option Value) {a : Addr} {oe : Obj} {cls : Value} {d : Option Addr} {e : Expr} {te : TE} {pos : Pos} (hz : Zc cls d oe) (hf : ∃ vs, oe.data = .fields vs) (he : PE X e te) (hp : (a, oe) ∈ X.pn := by exact List.Mem.head _)
    (hb : attributeBase e "subject" X.env (eval e X.env) = eval e X.env := by rfl) (hK : X.K = K := by rfl) (hM : X.mg = mg := by rfl) :
    PE X (.Attribute e "subject" pos) (tSubj K mg a cls d te) := by
  subst hK
  subst hM
  refine ⟨fun pins s σ H Q I h => attr_of hb (thn (he.run pins s σ H _ I h) fun u s1 hh => ?_)⟩
  obtain ⟨x, H1, I1, rx, ex, n, C, fI, dd, v, ec, T, ed, ea, q⟩ := hh
  subst ex
  obtain rfl : u = Value.ref a := rx
  subst ec
  subst ed
  obtain ⟨ha, _⟩ := I1.pin (a, oe) (List.mem_append_left _ hp)
  obtain ⟨vs, hd⟩ := hf
  have hx : ObjOk X.prog X.w H1 s1.heap dd (.xd (subj v)) := I1.hok dd _ ea
  obtain ⟨mA, hns, hr⟩ := hx
  obtain ⟨od, ho, hl⟩ := lookIn_ns hns
  have l : List.lookup ("subject" : Str) (subj v) = some v := by simp [List.lookup]
  obtain ⟨u, hu, ru⟩ := RelO.some_of (v := v) (o := mA "subject") (by rw [← l]; exact hr "subject")
  have J : PySem.W.InstAt s1.heap a oe C (some od) := ⟨ha, hz.1, by unfold PySem.W.notCls; rw [hd] <;> rfl, by rw [hz.2]; exact ho⟩
  exact HandSPX.exc_get I1.kIn J T.ga T.gg T.exC (PySem.W.findObj_own T.hdC T.noN rfl (by rw [hl, hu])) (handed_of ru) ⟨v, H1, I1.tok _, ru, q⟩
/-- isinstance(e, c), e the exception that the suite holds -/
def rIsX (K : PySem.W.Frag) (mg : Str → Option Value) (a : Addr) (cls : Value) (d : Option Addr) : List V → Hp → VK → Prop := fun xs H Q =>
  ∃ (n : Str) (C fI dd : Addr) (v : V) (c : V) (cv : Value) (b : Bool), xs = [.ref a, c] ∧ cls = .ref C ∧ PySem.GErr.ErrTxt K mg n C fI ∧ d = some dd ∧ H dd = some (.xd (subj v)) ∧ ClsV c cv ∧ PySem.W.kitOne K (.ref C) cv = some b ∧ Q (.bl b) H
theorem call_isX (K : PySem.W.Frag) (mg : Str → Option Value) {a : Addr} {oe : Obj} {cls : Value} {d : Option Addr} (hz : Zc cls d oe) (hf : ∃ vs, oe.data = .fields vs) (hp : (a, oe) ∈ X.pn := by exact List.Mem.head _) (hK : X.K = K := by rfl) (hM : X.mg = mg := by rfl) : CallR X (.builtin "isinstance") (rIsX K mg a cls d) := by
  subst hK
  subst hM
  intro pins s σ H xs us Q I r h
  obtain ⟨n, C, fI, dd, v, c, cv, b, rfl, ec, T, ed, ea, hcv, hk, q⟩ := h
  subst ec
  subst ed
  obtain ⟨u1, u2, rfl, r1, r2⟩ := vals2 r
  cases r1
  have e2 := hcv.eq r2
  subst e2
  obtain ⟨hget, _⟩ := I.pin (a, oe) (List.mem_append_left _ hp)
  obtain ⟨vs, hd⟩ := hf
  have hx : ObjOk X.prog X.w H s.heap dd (.xd (subj v)) := I.hok dd _ ea
  obtain ⟨mA, hns, hr⟩ := hx
  obtain ⟨od, ho, hl⟩ := lookIn_ns hns
  have J : PySem.W.InstAt s.heap a oe C (some od) := ⟨hget, hz.1, by unfold PySem.W.notCls; rw [hd] <;> rfl, by rw [hz.2]; exact ho⟩
  have hcl : (PySem.W.clsIn X.K C).isSome = true := by
    obtain ⟨cd, hc, _⟩ := PySem.W.any_some T.hdC
    rw [hc]
    rfl
  exact PySem.W.kia_one (PySem.W.kitx_exc (x := a) (ox := oe) (od := some od) hcl T.ga T.gg T.exC T.haC T.hnC T.htC T.hmC) I.kIn J hk (fun z => nomatch z) fun tk => ⟨.bl b, H, I.tok tk, rfl, q⟩
/-! ### try .. except C as n: suite -/
theorem pss_imp {sts : List Stmt} {t t' : TS} (h : PSs X sts t) (hi : ∀ D σ H, t' D σ H → t D σ H) : PSs X sts t' := ⟨fun pins s σ H D I q => h.run pins s σ H D I (hi D σ H q)⟩
variable {x n : Str} {c : Value} {i : Nat} {body suite : List Stmt} {b₀ : Stmt} {np pos pos' : Pos} {tb : WX → List (Addr × Obj) → (Value → Shared → Prop) → TS} {ts : Addr → Obj → Value → Option Addr → List (Addr × Obj) → TS} {Wout : WX}
def tAll (ts : Addr → Obj → Value → Option Addr → List (Addr × Obj) → TS) : Addr → Value → Option Addr → TS := fun a cls d D σ H => ∀ oe pn, ts a oe cls d pn D σ H
/-- the try with its suite, as a reading -/
def tTryAs (K : PySem.W.Frag) (c : Value) (i : Nat) (ts : Addr → Obj → Value → Option Addr → List (Addr × Obj) → TS) (Wout : WX) (tb : WX → List (Addr × Obj) → (Value → Shared → Prop) → TS) : TS := fun D σ H => ∀ pn xe, tb (wAs K c i (tAll ts) Wout D) pn xe D σ H
def tTryOnly (K : PySem.W.Frag) (c : Value) (ts : Addr → Obj → Value → Option Addr → List (Addr × Obj) → TS) (Wout : WX) (tb : WX → List (Addr × Obj) → (Value → Shared → Prop) → TS) : TS := fun D σ H => ∀ pn xe, tb (wOnly K c (tAll ts) Wout D) pn xe D σ H
theorem ps_tryAs (hN : X.N.Nodup) (hi : X.N[i]? = some n) (hc : Names X x c) (tk : L2N.Takes X Wout)
    (hb : ∀ (W : WX) (pn : List (Addr × Obj)) (xe : Value → Shared → Prop), L2N.Takes (X.tr pn xe) W → PassesOwn (model X.prog X.w) X.A X.env xe → PSs (X.tr pn xe) body (tb W pn xe))
    (hsu : ∀ (a : Addr) (oe : Obj) (cls : Value) (d : Option Addr) (pn : List (Addr × Obj)), L2N.Zn cls d oe → (∃ vs, oe.data = .fields vs) → PSs (X.suite a ((a, oe) :: pn)) (b₀ :: suite) (ts a oe cls d pn))
    (hs : X.stack = X.env :: X.outer := by rfl) (hf : X.env.frame = some X.env.locals := by rfl) (hln : X.env.kindOf n = some .local := by rfl) :
    PS X (.Try body [.ExceptHandler (some (.Name x np)) (some n) (b₀ :: suite) pos'] [] [] pos) (tTryAs X.K c i ts Wout tb) :=
  L2N.ps_try_as (tb := fun W D σ H => ∀ pn xe, tb W pn xe D σ H) (ts := tAll ts) hs hf hN hi hln hc tk (fun W pn xe tk po => pss_imp (hb W pn xe tk po) fun D σ H q => q pn xe)
    fun a oe cls d pn hz hfs => pss_imp (hsu a oe cls d pn hz hfs) fun D σ H q => q oe pn
theorem ps_tryOnly (hc : Names X x c) (tk : L2N.Takes X Wout)
    (hb : ∀ (W : WX) (pn : List (Addr × Obj)) (xe : Value → Shared → Prop), L2N.Takes (X.tr pn xe) W → PassesOwn (model X.prog X.w) X.A X.env xe → PSs (X.tr pn xe) body (tb W pn xe))
    (hsu : ∀ (a : Addr) (oe : Obj) (cls : Value) (d : Option Addr) (pn : List (Addr × Obj)), L2N.Zn cls d oe → (∃ vs, oe.data = .fields vs) → PSs (X.suite a ((a, oe) :: pn)) (b₀ :: suite) (ts a oe cls d pn))
    (hs : X.stack = X.env :: X.outer := by rfl) (hf : X.env.frame = some X.env.locals := by rfl) :
    PS X (.Try body [.ExceptHandler (some (.Name x np)) none (b₀ :: suite) pos'] [] [] pos) (tTryOnly X.K c ts Wout tb) :=
  L2N.ps_try_many (tb := fun W D σ H => ∀ pn xe, tb W pn xe D σ H) (l := [(c, tAll ts)]) hs hf tk (fun W pn xe tk po => pss_imp (hb W pn xe tk po) fun D σ H q => q pn xe)
    (.cons hc (fun a oe cls d pn hz hfs => pss_imp (hsu a oe cls d pn hz hfs) fun D σ H q => q oe pn) .nil)
end
end GG

/-! GS: rules for any operands (u_*), and the readings step by step, backwards (st_*). -/
namespace GG
open PySem L2 PyProof.Rows

/-! ### rules for any operands -/
def CM (i j : Int) : Prop := IntMulOk i j
theorem CM.left {i j : Int} (h1 : -(2 ^ 64) < i) (h2 : i < 2 ^ 64) : CM i j := IntMulOk.of_left (intBits_le_64 h1 h2)
theorem CM.right {i j : Int} (h1 : -(2 ^ 64) < j) (h2 : j < 2 ^ 64) : CM i j := IntMulOk.of_right (intBits_le_64 h1 h2)
theorem CM.wide {i j : Int} {a b : Nat} (ha : i.natAbs < 2 ^ a) (hb : j.natAbs < 2 ^ b) (h : a + b ≤ 900000) : CM i j :=
  (wide_mul (a := a + 1) (b := b + 1) (Nat.lt_of_lt_of_le ha (Nat.pow_le_pow_right (by decide) (Nat.le_succ a))) (Nat.lt_of_lt_of_le hb (Nat.pow_le_pow_right (by decide) (Nat.le_succ b))) (Nat.succ_pos _) (Nat.succ_pos _) (by omega)).ok
def CD (_ j : Int) : Prop := j ≠ 0 ∧ j.natAbs.log2 < 9000
def uAdd (K : PySem.W.Frag) : R2 := fun x y H Q => (rI0 fun i j => .int (i + j)) x y H Q ∨ ((∃ i j, x = .str i ∧ y = .str j ∧ i.length + j.length ≤ sizeLine ∧ Q (.str (i ++ j)) H) ∨ (rCat x y H Q ∨ rCatT K x y H Q))
def uMul : R2 := fun x y H Q => (rI CM fun i j => .int (i * j)) x y H Q ∨ rRep x y H Q
def uSub : R2 := rI0 fun i j => .int (i - j)
def uFdiv : R2 := rI CD fun i j => .int (i.fdiv j)
def uMod : R2 := rI (fun _ j => j ≠ 0) fun i j => .int (i.fmod j)
def uPow : R2 := rI CPow fun i j => .int (i ^ j.toNat)
def uEq (K : PySem.W.Frag) : R2 := fun x y H Q => rEq x y H Q ∨ rEqD K x y H Q
def uNe (K : PySem.W.Frag) : R2 := fun x y H Q => rNe x y H Q ∨ rNeD K x y H Q
def uLt : R2 := rI0 fun i j => .bl (decide (i < j))
def uLe : R2 := rI0 fun i j => .bl (decide (i ≤ j))
def uGt : R2 := rI0 fun i j => .bl (decide (j < i))
def uGe : R2 := rI0 fun i j => .bl (decide (j ≤ i))
def uIn (K : PySem.W.Frag) : R2 := rIn K false
def uNotin (K : PySem.W.Frag) : R2 := rIn K true
def uIx (K : PySem.W.Frag) : R2 := rIx K
def uSet : TSet := rSetL
def cInt : List V → Hp → VK → Prop := fun xs H Q => ((∃ i, xs = [.int i] ∧ Q (.int i) H) ∨ ∃ k, xs = [.bl k] ∧ Q (.int (if k then 1 else 0)) H)
def cLen (K : PySem.W.Frag) : List V → Hp → VK → Prop := fun xs H Q => ∃ x n, xs = [x] ∧ LenV K x H n ∧ Q (.int n) H
def cBool : List V → Hp → VK → Prop := fun xs H Q => (∃ i, xs = [.int i] ∧ Q (.bl (i != 0)) H) ∨ ∃ k, xs = [.bl k] ∧ Q (.bl k) H
section
variable {X : Cx}
theorem u_add (K : PySem.W.Frag) (hK : X.K = K := by rfl) : OpR X (binaryOp .Add) (uAdd K) := by subst hK; exact op_add.or (op_add_str.or (op_cat.or op_catT))
theorem u_sub : OpR X (binaryOp .Sub) uSub := op_sub
theorem u_mul : OpR X (binaryOp .Mult) uMul := OpR.or (opI fun _ _ _ _ _ _ _ hc q => mul_int q hc) op_rep
theorem u_fdiv : OpR X (binaryOp .FloorDiv) uFdiv := opI fun _ _ _ _ _ _ _ hc q => floordiv_int hc.1 q (.inl (PyProof.noPylong_of_log2 hc.2))
theorem u_mod : OpR X (binaryOp .Mod) uMod := op_modN
theorem u_pow : OpR X (binaryOp .Pow) uPow := op_pow
theorem u_eq (K : PySem.W.Frag) (hu : X.A.units + 64 < cLine) (hK : X.K = K := by rfl) : OpR X (compareOp .Eq) (uEq K) := by subst hK; exact op_eq.or (op_eqD hu)
theorem u_ne (K : PySem.W.Frag) (hu : X.A.units + 64 < cLine) (hK : X.K = K := by rfl) : OpR X (compareOp .NotEq) (uNe K) := by subst hK; exact op_ne.or (op_neD hu)
theorem u_lt : OpR X (compareOp .Lt) uLt := op_lt
theorem u_le : OpR X (compareOp .LtE) uLe := op_le
theorem u_gt : OpR X (compareOp .Gt) uGt := op_gt
theorem u_ge : OpR X (compareOp .GtE) uGe := op_ge
theorem u_in (K : PySem.W.Frag) (hK : X.K = K := by rfl) : OpR X (compareOp .In) (uIn K) := by subst hK; exact op_in_seq
theorem u_notin (K : PySem.W.Frag) (hK : X.K = K := by rfl) : OpR X (compareOp .NotIn) (uNotin K) := by subst hK; exact op_notIn_seq
theorem u_ix (K : PySem.W.Frag) (hK : X.K = K := by rfl) : IxR X (uIx K) := by subst hK; exact ix_seq
theorem u_set : PSet X uSet := set_list
theorem c_int : CallR X (.type "int") cInt := call_int1
theorem c_len (K : PySem.W.Frag) (hK : X.K = K := by rfl) : CallR X (.builtin "len") (cLen K) := by subst hK; exact call_len
theorem c_bool : CallR X (.type "bool") cBool := call_bool1
section
variable (K : PySem.W.Frag) {e o value tg : Expr} {f : Str} {pos pos' : Pos} {ta tv : TE} {T : String} {as : TA} {r : V → List V → Hp → VK → Prop} {st : Stmt} {n : Nat} {gs : TGs}
theorem pe_fldK (h : PE X e (tFld X.K ta f)) (hK : X.K = K := by rfl) : PE X e (tFld K ta f) := by subst hK; exact h
theorem ps_fldK (h : PS X st (sFld X.K ta tv f)) (hK : X.K = K := by rfl) : PS X st (sFld K ta tv f) := by subst hK; exact h
theorem pe_bmK (h : PE X e (tBM X.K T r ta as)) (hK : X.K = K := by rfl) : PE X e (tBM K T r ta as) := by subst hK; exact h
theorem pe_bm0K (h : PE X e (tBM0 X.K T r ta)) (hK : X.K = K := by rfl) : PE X e (tBM0 K T r ta) := by subst hK; exact h
theorem pi_listK (h : PI X tg e (iList X.K ta)) (hK : X.K = K := by rfl) : PI X tg e (iList K ta) := by subst hK; exact h
theorem pi_tupK (h : PI X tg e (iTup X.K ta)) (hK : X.K = K := by rfl) : PI X tg e (iTup K ta) := by subst hK; exact h
theorem pg_tupK (h : PG X e (gTup X.K n gs)) (hK : X.K = K := by rfl) : PG X e (gTup K n gs) := by subst hK; exact h
theorem pe_lcV (vs : List Nat) {ws : List Nat} {wi : TI} {g : TG} {tt : TT} {te : TE} (h : PE X e (tLc wi g tt te ws)) (hv : ws = vs := by rfl) : PE X e (tLc wi g tt te vs) := by subst hv; exact h
theorem ps_lcV (vs : List Nat) {ws : List Nat} {wi : TI} {g : TG} {tt : TT} {te : TE} (h : PS X st (tAsg (tLc wi g tt te ws) (gName n))) (hv : ws = vs := by rfl) : PS X st (tAsg (tLc wi g tt te vs) (gName n)) := by subst hv; exact h
theorem c_isi (hK : X.K = K := by rfl) : CallR X (.builtin "isinstance") (rIsi K) := by subst hK; exact call_isi
end
theorem m_append : MtR X "list.append" rAppend := mt_append
theorem m_popAt : MtR X "list.pop" rPopAt := mt_popAt
theorem m_pop : MtR X "list.pop" rPop := mt_pop
end

/-! ### heaps: Ext (grown), But l (grown, the object at l changed) -/
def Ext (H H' : Hp) : Prop := ∀ a o, H a = some o → H' a = some o
def But (l : Addr) (H H' : Hp) : Prop := ∀ a o, a ≠ l → H a = some o → H' a = some o
theorem Ext.rfl {H : Hp} : Ext H H := fun _ _ h => h
theorem Ext.trans {H H1 H2 : Hp} (a : Ext H H1) (b : Ext H1 H2) : Ext H H2 := fun x o h => b x o (a x o h)
theorem Ext.look {H H' : Hp} {a : Addr} {o : HO} (e : Ext H H') (h : H a = some o) : H' a = some o := e a o h
theorem Ext.new {H : Hp} {p : Addr} {o : HO} (h : H p = none) : Ext H (upd H p o) := fun a u e => by rw [upd_ne (ne_of_none e h)]; exact e
theorem Ext.free {H H' : Hp} (e : Ext H H') {l : Addr} (h : H' l = Option.none) : H l = Option.none := Same.free e h
theorem Ext.but {H H' : Hp} {l : Addr} (e : Ext H H') : But l H H' := fun a o _ h => e a o h
theorem But.rfl {H : Hp} {l : Addr} : But l H H := fun _ _ _ h => h
theorem But.trans {H H1 H2 : Hp} {l : Addr} (a : But l H H1) (b : But l H1 H2) : But l H H2 := fun x o n h => b x o n (a x o n h)
theorem But.look {H H' : Hp} {l a : Addr} {o : HO} (e : But l H H') (n : a ≠ l) (h : H a = some o) : H' a = some o := e a o n h
/-- .. where the two objects are of unlike kinds -/
theorem But.lookK {H H' : Hp} {l a : Addr} {o u : HO} (e : But l H H') (hl : H l = some u) (h : H a = some o) (n : o ≠ u) : H' a = some o := e a o (ne_of h hl n) h
theorem But.upd {H : Hp} {l : Addr} {o : HO} : But l H (L2.upd H l o) := fun a u n e => by rw [upd_ne n]; exact e
/-- what is new behind l's change -/
theorem But.ext {H0 H H' : Hp} {l : Addr} (e : But l H H') (e0 : Ext H0 H) (h : H0 l = none) : Ext H0 H' := fun a o q => e a o (ne_of_none q h) (e0 a o q)
theorem But.exts {H H1 H2 : Hp} {l : Addr} (a : But l H H1) (b : Ext H1 H2) : But l H H2 := a.trans b.but
theorem Ext.buts {H H1 H2 : Hp} {l : Addr} (a : Ext H H1) (b : But l H1 H2) : But l H H2 := a.but.trans b
theorem Ext.sq {K : PySem.W.Frag} {H H' : Hp} {a : Addr} {xs : List V} (e : Ext H H') (h : SqL K H a xs) : SqL K H' a xs := Same.seq e h

/-! ### statements, run with their four ends -/
def Run (t : TS) (nx : L2.St → Hp → Prop) (rt : VK) (bk ct : L2.St → Hp → Prop) (σ : L2.St) (H : Hp) : Prop := t ⟨nx, rt, bk, ct⟩ σ H
abbrev NoE : L2.St → Hp → Prop := fun _ _ => False
section
variable {K : PySem.W.Frag} {nx bk ct : L2.St → Hp → Prop} {rt : VK} {σ : L2.St} {H : Hp} {t u : TS} {te ta tb tc : TE} {tt tu : TT} {as : TA} {Q : VK} {QB : Bool → Hp → Prop} {QA : List V → Hp → Prop} {v x y : V} {E : L2.St → XK} {sp : Sp} {D : Ends}
theorem run_of (h : Run t D.nx D.rt D.bk D.ct σ H) : t D σ H := h
theorem run_start {σ' : L2.St} (e : σ' = σ) (h : Run t (fun _ H' => Q .non H') Q NoE NoE σ H) : t { nx := fun _ H' => Q .non H', rt := Q } σ' H := by
  subst e
  exact h
theorem run_seq (h : Run t (fun σ' H' => Run u nx rt bk ct σ' H') rt bk ct σ H) : Run (tSeq t u) nx rt bk ct σ H := h
theorem run_next (h : nx σ H) : Run tNext nx rt bk ct σ H := h
theorem run_asg {i : Nat} (h : te σ H fun x H1 => nx (σ.set i (some x)) H1) : Run (tAsg te (gName i)) nx rt bk ct σ H := h
theorem run_asgG {g : TG} (h : te σ H fun x H1 => g x σ H1 nx) : Run (tAsg te g) nx rt bk ct σ H := h
theorem run_drop (h : te σ H fun _ H1 => nx σ H1) : Run (tDrop te) nx rt bk ct σ H := h
theorem run_ret (h : te σ H rt) : Run (tRet te) nx rt bk ct σ H := h
theorem run_retN (h : rt .non H) : Run tRetN nx rt bk ct σ H := h
theorem run_break (h : bk σ H) : Run tBreak nx rt bk ct σ H := h
theorem run_cont (h : ct σ H) : Run tCont nx rt bk ct σ H := h
/-- the two ways of a test -/
def Br (b : Bool) (A B : Prop) : Prop := if b = true then A else B
theorem run_ifS (h : tt σ H fun b H1 => Br b (Run t nx rt bk ct σ H1) (Run u nx rt bk ct σ H1)) : Run (tIfS tt t u) nx rt bk ct σ H := h
theorem br_t {A B : Prop} (h : A) : Br true A B := iteT h
theorem br_f {A B : Prop} (h : B) : Br false A B := iteF h
theorem br_d {p A B : Prop} [Decidable p] (h1 : p → A) (h2 : ¬ p → B) : Br (decide p) A B := by
  by_cases h : p
  · rw [decide_eq_true h]; exact br_t (h1 h)
  · rw [decide_eq_false h]; exact br_f (h2 h)
theorem br_nd {p A B : Prop} [Decidable p] (h1 : ¬ p → A) (h2 : p → B) : Br (!decide p) A B := by
  by_cases h : p
  · rw [decide_eq_true h]; exact br_f (h2 h)
  · rw [decide_eq_false h]; exact br_t (h1 h)
theorem br_b {b : Bool} {A B : Prop} (h1 : b = true → A) (h2 : b = false → B) : Br b A B := by
  cases b with
  | true => exact br_t (h1 rfl)
  | false => exact br_f (h2 rfl)
theorem br_not {b : Bool} {A B : Prop} (h : Br b B A) : Br (!b) A B := by
  cases b with
  | true => exact h
  | false => exact h
/-! ### expressions -/
theorem st_var {i : Nat} (h : σ[i]? = some (some v)) (q : Q v H) : tVar i σ H Q := ⟨v, h, q⟩
theorem st_c (q : Q v H) : tC v σ H Q := q
theorem st_op {r : R2} (h : ta σ H fun x H1 => tb σ H1 fun y H2 => r x y H2 Q) : tOp r ta tb σ H Q := h
theorem st_opS {r : R2S} (h : ta σ H fun x H1 => tb σ H1 fun y H2 => r σ x y H2 Q) : tOpS r ta tb σ H Q := h
theorem st_un {r : V → Hp → VK → Prop} (h : ta σ H fun x H1 => r x H1 Q) : tUn r ta σ H Q := h
theorem st_unS {r : L2.St → V → Hp → VK → Prop} (h : ta σ H fun x H1 => r σ x H1 Q) : tUnS r ta σ H Q := h
theorem st_nil (h : QA [] H) : tNil σ H QA := h
theorem st_cons {tr : TA} (h : ta σ H fun x H1 => tr σ H1 fun xs H2 => QA (x :: xs) H2) : tCons ta tr σ H QA := h
theorem st_cb {r : List V → Hp → VK → Prop} (h : as σ H fun vs H1 => r vs H1 Q) : tCB r as σ H Q := h
theorem st_cbS {r : L2.St → List V → Hp → VK → Prop} (h : as σ H fun vs H1 => r σ vs H1 Q) : tCBS r as σ H Q := h
theorem st_fn {dvs : List V} (h : as σ H fun vs H1 => sp (vs ++ dvs) H1 Q (E σ)) : tCallSD sp dvs E as σ H Q := h
/-- a new tuple, a new list -/
def rTup (xs : List V) (H : Hp) (Q : VK) : Prop := xs.length ≤ sizeLine ∧ ∀ p, H p = none → Q (.ref p) (upd H p (.tup xs))
def rLst (xs : List V) (H : Hp) (Q : VK) : Prop := xs.length ≤ sizeLine ∧ ∀ p, H p = none → Q (.ref p) (upd H p (.lst xs))
theorem st_tup (h : as σ H fun xs H1 => rTup xs H1 Q) : tTup as σ H Q := h
theorem st_lst (h : as σ H fun xs H1 => rLst xs H1 Q) : tLst as σ H Q := h
theorem r_tup {xs : List V} (hz : xs.length ≤ 1000) (h : ∀ p H2, H p = none → Ext H H2 → H2 p = some (.tup xs) → Q (.ref p) H2) : rTup xs H Q := ⟨Nat.le_trans hz (by decide), fun p hp => h p _ hp (Ext.new hp) upd_same⟩
theorem r_lst {xs : List V} (hz : xs.length ≤ 1000) (h : ∀ p H2, H p = none → Ext H H2 → H2 p = some (.lst xs) → Q (.ref p) H2) : rLst xs H Q := ⟨Nat.le_trans hz (by decide), fun p hp => h p _ hp (Ext.new hp) upd_same⟩
/-- e.f -/
def rFld (K : PySem.W.Frag) (f : Str) (x : V) (H : Hp) (Q : VK) : Prop := ∃ a C dx fs v, x = .ref a ∧ H a = some (.ins C dx fs) ∧ Cls K C ∧ NoAttr K C f ∧ fs.lookup f = some v ∧ Q v H
theorem st_fld {f : Str} (h : ta σ H fun x H1 => rFld K f x H1 Q) : tFld K ta f σ H Q := h
theorem r_fld {f : Str} {a C dx : Addr} {fs : List (Str × V)} (h : H a = some (.ins C dx fs)) (c : Cls K C) (n : NoAttr K C f) (l : fs.lookup f = some v) (q : Q v H) : rFld K f (.ref a) H Q := ⟨a, C, dx, fs, v, rfl, h, c, n, l, q⟩
/-- e.f = v -/
def rPutF (K : PySem.W.Frag) (f : Str) (x y : V) (H : Hp) (k : Hp → Prop) : Prop := ∃ a C dx fs, x = .ref a ∧ H a = some (.ins C dx fs) ∧ Cls K C ∧ NoAttr K C f ∧ fs.length < 1000 ∧ k (upd H a (.ins C dx (putF f y fs)))
theorem run_fld {f : Str} (h : tb σ H fun y H1 => ta σ H1 fun x H2 => rPutF K f x y H2 (nx σ)) : Run (sFld K ta tb f) nx rt bk ct σ H := h
theorem r_putF {f : Str} {a C dx : Addr} {fs : List (Str × V)} {k : Hp → Prop} (h : H a = some (.ins C dx fs)) (c : Cls K C) (n : NoAttr K C f) (l : fs.length < 1000) (q : k (upd H a (.ins C dx (putF f y fs)))) : rPutF K f (.ref a) y H k := ⟨a, C, dx, fs, rfl, h, c, n, l, q⟩
/-- a test -/
def rTest (x : V) (H : Hp) (QB : Bool → Hp → Prop) : Prop := ∃ k, x = .bl k ∧ QB k H
theorem st_test (h : te σ H fun x H' => rTest x H' QB) : tTest te σ H QB := h
theorem r_test {k : Bool} (h : QB k H) : rTest (.bl k) H QB := ⟨k, rfl, h⟩
def rTru (K : PySem.W.Frag) (x : V) (H : Hp) (QB : Bool → Hp → Prop) : Prop := ∃ k, TruV K x H k ∧ QB k H
theorem st_tru (h : te σ H fun x H' => rTru K x H' QB) : (fun (σ : L2.St) H (Q : Bool → Hp → Prop) => te σ H fun x H' => ∃ k, TruV K x H' k ∧ Q k H') σ H QB := h
theorem r_truB {k : Bool} (h : QB k H) : rTru K (.bl k) H QB := ⟨k, rfl, h⟩
theorem st_not (h : tt σ H fun c H1 => QB (!c) H1) : tNot tt σ H QB := h
theorem st_and (h : tt σ H fun c H1 => Br c (tu σ H1 QB) (QB false H1)) : tAnd tt tu σ H QB := h
theorem st_or (h : tt σ H fun c H1 => Br c (QB true H1) (tu σ H1 QB)) : tOr tt tu σ H QB := h
def rAndV (tb : TE) (σ : L2.St) (x : V) (H : Hp) (Q : VK) : Prop := ∃ c, x = .bl c ∧ if c = true then tb σ H Q else Q (.bl false) H
def rOrV (tb : TE) (σ : L2.St) (x : V) (H : Hp) (Q : VK) : Prop := ∃ c, x = .bl c ∧ if c = true then Q (.bl true) H else tb σ H Q
theorem st_andV (h : ta σ H fun x H1 => rAndV tb σ x H1 Q) : tAndV ta tb σ H Q := h
theorem st_orV (h : ta σ H fun x H1 => rOrV tb σ x H1 Q) : tOrV ta tb σ H Q := h
theorem r_andV {c : Bool} (h : Br c (tb σ H Q) (Q (.bl false) H)) : rAndV tb σ (.bl c) H Q := ⟨c, rfl, h⟩
theorem r_orV {c : Bool} (h : Br c (Q (.bl true) H) (tb σ H Q)) : rOrV tb σ (.bl c) H Q := ⟨c, rfl, h⟩
def rNotV (x : V) (H : Hp) (Q : VK) : Prop := ∃ c, x = .bl c ∧ Q (.bl (!c)) H
theorem st_notV (h : ta σ H fun x H1 => rNotV x H1 Q) : tNotV ta σ H Q := h
theorem r_notV {c : Bool} (h : Q (.bl (!c)) H) : rNotV (.bl c) H Q := ⟨c, rfl, h⟩
theorem st_ifE (h : tt σ H fun c H1 => Br c (ta σ H1 Q) (tb σ H1 Q)) : tIf tt ta tb σ H Q := h
def rChain (r' : R2) (tc : TE) (σ : L2.St) (y z : V) (H : Hp) (Q : VK) : Prop := ∃ k, z = .bl k ∧ (if k = true then tc σ H fun w' H4 => r' y w' H4 Q else Q (.bl false) H)
theorem st_chain {r r' : R2} (h : ta σ H fun x H1 => tb σ H1 fun y H2 => r x y H2 fun z H3 => rChain r' tc σ y z H3 Q) : tChain r r' ta tb tc σ H Q := h
theorem r_chain {r' : R2} {k : Bool} (h : Br k (tc σ H fun w' H4 => r' y w' H4 Q) (Q (.bl false) H)) : rChain r' tc σ y (.bl k) H Q := ⟨k, rfl, h⟩
/-! ### the operators on values -/
variable {i j : Int}
theorem v_add (q : Q (.int (i + j)) H) : uAdd K (.int i) (.int j) H Q := .inl ⟨i, j, rfl, rfl, q⟩
theorem v_addS {i j : Str} (hz : i.length + j.length ≤ 1000000) (q : Q (.str (i ++ j)) H) : uAdd K (.str i) (.str j) H Q := .inr (.inl ⟨i, j, rfl, rfl, Nat.le_trans hz (by decide), q⟩)
theorem v_addL {a b : Addr} {xs ys : List V} (ha : H a = some (.lst xs)) (hb : H b = some (.lst ys)) (hz : xs.length + ys.length ≤ 1000000) (q : ∀ p H2, H p = none → Ext H H2 → H2 p = some (.lst (xs ++ ys)) → Q (.ref p) H2) : uAdd K (.ref a) (.ref b) H Q :=
  .inr (.inr (.inl ⟨a, b, xs, ys, rfl, rfl, ha, hb, Nat.le_trans hz (by decide), fun p hp => q p _ hp (Ext.new hp) upd_same⟩))
theorem v_sub (q : Q (.int (i - j)) H) : uSub (.int i) (.int j) H Q := ⟨i, j, rfl, rfl, q⟩
theorem v_mul (hc : CM i j) (q : Q (.int (i * j)) H) : uMul (.int i) (.int j) H Q := .inl ⟨i, j, rfl, rfl, hc, q⟩
theorem v_fdiv (hc : CD i j) (q : Q (.int (i.fdiv j)) H) : uFdiv (.int i) (.int j) H Q := ⟨i, j, rfl, rfl, hc, q⟩
theorem v_mod (hc : 0 < j) (q : Q (.int (i % j)) H) : uMod (.int i) (.int j) H Q := ⟨i, j, rfl, rfl, by omega, by show Q (.int (i.fmod j)) H; rw [Int.fmod_eq_emod_of_nonneg i (by omega)]; exact q⟩
theorem v_modN (hc : j ≠ 0) (q : Q (.int (i.fmod j)) H) : uMod (.int i) (.int j) H Q := ⟨i, j, rfl, rfl, hc, q⟩
theorem v_pow (hc : CPow i j) (q : Q (.int (i ^ j.toNat)) H) : uPow (.int i) (.int j) H Q := ⟨i, j, rfl, rfl, hc, q⟩
theorem v_lt (q : Q (.bl (decide (i < j))) H) : uLt (.int i) (.int j) H Q := ⟨i, j, rfl, rfl, q⟩
theorem v_le (q : Q (.bl (decide (i ≤ j))) H) : uLe (.int i) (.int j) H Q := ⟨i, j, rfl, rfl, q⟩
theorem v_gt (q : Q (.bl (decide (j < i))) H) : uGt (.int i) (.int j) H Q := ⟨i, j, rfl, rfl, q⟩
theorem v_ge (q : Q (.bl (decide (j ≤ i))) H) : uGe (.int i) (.int j) H Q := ⟨i, j, rfl, rfl, q⟩
theorem dec_congr {p q : Prop} [Decidable p] [Decidable q] (h : p ↔ q) : decide p = decide q := by
  by_cases c : p
  · rw [decide_eq_true c, decide_eq_true (h.mp c)]
  · rw [decide_eq_false c, decide_eq_false (fun z => c (h.mpr z))]
theorem v_eq (q : Q (.bl (decide (i = j))) H) : uEq K (.int i) (.int j) H Q := .inl ⟨rfl, by rw [dec_congr (q := i = j) ⟨fun h => V.int.inj h, fun h => by rw [h]⟩]; exact q⟩
theorem v_ne (q : Q (.bl (!decide (i = j))) H) : uNe K (.int i) (.int j) H Q := .inl ⟨rfl, by rw [dec_congr (q := i = j) ⟨fun h => V.int.inj h, fun h => by rw [h]⟩]; exact q⟩
theorem v_eqB {i j : Bool} (q : Q (.bl (decide (i = j))) H) : uEq K (.bl i) (.bl j) H Q := .inl ⟨rfl, by rw [dec_congr (q := i = j) ⟨fun h => V.bl.inj h, fun h => by rw [h]⟩]; exact q⟩
theorem v_neB {i j : Bool} (q : Q (.bl (!decide (i = j))) H) : uNe K (.bl i) (.bl j) H Q := .inl ⟨rfl, by rw [dec_congr (q := i = j) ⟨fun h => V.bl.inj h, fun h => by rw [h]⟩]; exact q⟩
theorem v_eqS {i j : Str} (q : Q (.bl (decide (i = j))) H) : uEq K (.str i) (.str j) H Q := .inl ⟨rfl, by rw [dec_congr (q := i = j) ⟨fun h => V.str.inj h, fun h => by rw [h]⟩]; exact q⟩
theorem v_neS {i j : Str} (q : Q (.bl (!decide (i = j))) H) : uNe K (.str i) (.str j) H Q := .inl ⟨rfl, by rw [dec_congr (q := i = j) ⟨fun h => V.str.inj h, fun h => by rw [h]⟩]; exact q⟩
/-- two tuples of two ints -/
theorem v_eqT2 {a b : Addr} {i j k l : Int} (ha : H a = some (.tup [.int i, .int j])) (hb : H b = some (.tup [.int k, .int l])) (q : Q (.bl (decide (i = k ∧ j = l))) H) : uEq K (.ref a) (.ref b) H Q := by
  refine .inr ⟨.tuple [.int i, .int j], .tuple [.int k, .int l], .tup (SqT.of ha) (.cons (.int _) (.cons (.int _) .nil)), .tup (SqT.of hb) (.cons (.int _) (.cons (.int _) .nil)), rfl, rfl, ?_⟩
  have e : PyData.eqv (.tuple [.int i, .int j]) (.tuple [.int k, .int l]) = decide (i = k ∧ j = l) := by
    rw [Bool.eq_iff_iff]
    simp [PyData.eqv, PyData.eqvAll]
  rw [e]
  exact q
theorem v_ixL {a : Addr} {xs : List V} {z : Int} (ha : H a = some (.lst xs)) (hz : 0 ≤ z) (h : xs[z.toNat]? = some v) (q : Q v H) : uIx K (.ref a) (.int z) H Q :=
  .inl ⟨a, xs, z, v, rfl, rfl, SqL.of ha, at_of (Int.toNat_of_nonneg hz).symm h, q⟩
theorem v_ixT {a : Addr} {xs : List V} {z : Int} (ha : H a = some (.tup xs)) (hz : 0 ≤ z) (h : xs[z.toNat]? = some v) (q : Q v H) : uIx K (.ref a) (.int z) H Q :=
  .inr (.inl ⟨a, xs, z, v, rfl, rfl, SqT.of ha, at_of (Int.toNat_of_nonneg hz).symm h, q⟩)
theorem v_neg (q : Q (.int (-i)) H) : (rU fun i => .int (-i)) (.int i) H Q := ⟨i, rfl, q⟩
theorem v_int (q : Q (.int i) H) : cInt [.int i] H Q := .inl ⟨i, rfl, q⟩
theorem v_intB {b : Bool} (q : Q (.int (if b then 1 else 0)) H) : cInt [.bl b] H Q := .inr ⟨b, rfl, q⟩
theorem v_boolB {b : Bool} (q : Q (.bl b) H) : cBool [.bl b] H Q := .inr ⟨b, rfl, q⟩
theorem v_lenL {a : Addr} {xs : List V} (ha : H a = some (.lst xs)) (q : Q (.int (xs.length : Int)) H) : cLen K [.ref a] H Q := ⟨.ref a, xs.length, rfl, .inl ⟨xs, SqL.of ha, rfl⟩, q⟩
theorem v_lenT {a : Addr} {xs : List V} (ha : H a = some (.tup xs)) (q : Q (.int (xs.length : Int)) H) : cLen K [.ref a] H Q := ⟨.ref a, xs.length, rfl, .inr ⟨xs, SqT.of ha, rfl⟩, q⟩
/-- xs[n] = v -/
theorem st_sub {T : TSet} {k : L2.St → Hp → Prop} (h : ta σ H fun o H1 => tb σ H1 fun i H2 => T o i v H2 fun H3 => k σ H3) : gSub ta tb T v σ H k := h
theorem v_set {a : Addr} {xs : List V} {z : Int} {k : Hp → Prop} (ha : H a = some (.lst xs)) (hz : 0 ≤ z) (h : z.toNat < xs.length) (q : ∀ H2, But a H H2 → H2 a = some (.lst (xs.set z.toNat v)) → k H2) : uSet (.ref a) (.int z) v H k :=
  ⟨a, xs, z, z.toNat, rfl, rfl, ha, by unfold ixN; rw [if_pos hz, if_pos (by omega)], q _ But.upd upd_same⟩
/-- methods of lists -/
theorem st_bm {T : String} {r : V → List V → Hp → VK → Prop} (h : ta σ H fun x H1 => tyV K T x H1 ∧ as σ H1 fun xs H2 => r x xs H2 Q) : tBM K T r ta as σ H Q := h
theorem st_bm0 {T : String} {r : V → List V → Hp → VK → Prop} (h : ta σ H fun x H1 => tyV K T x H1 ∧ r x [] H1 Q) : tBM0 K T r ta σ H Q := h
theorem ty_list {a : Addr} {xs : List V} (ha : H a = some (.lst xs)) : tyV K "list" (.ref a) H := .inl ⟨rfl, xs, SqL.of ha⟩
theorem v_append {a : Addr} {xs : List V} (ha : H a = some (.lst xs)) (hz : xs.length < 1000000) (q : ∀ H2, But a H H2 → H2 a = some (.lst (xs ++ [v])) → Q .non H2) : rAppend (.ref a) [v] H Q :=
  ⟨a, xs, v, rfl, rfl, ha, Nat.lt_of_lt_of_le hz (by decide), q _ But.upd upd_same⟩
theorem v_popAt {a : Addr} {xs : List V} {z : Int} (ha : H a = some (.lst xs)) (hz : 0 ≤ z) (hn : z < 1000000) (h : xs[z.toNat]? = some v) (q : ∀ H2, But a H H2 → H2 a = some (.lst (xs.eraseIdx z.toNat)) → Q v H2) : rPopAt (.ref a) [.int z] H Q :=
  ⟨a, xs, z, z.toNat, v, rfl, rfl, ha, by omega, by omega, by
    have w := (List.getElem?_eq_some_iff.mp h).1
    show (if (decide ((0 : Int) ≤ (if z < 0 then z + xs.length else z)) && decide ((if z < 0 then z + xs.length else z) < xs.length)) = true then some (if z < 0 then z + xs.length else z).toNat else none) = some z.toNat
    rw [if_neg (show ¬ z < 0 by omega), if_pos (by simp; omega)], h, q _ But.upd upd_same⟩
/-- what a change leaves -/
theorem chg {a : Addr} {o : HO} {k : Hp → Prop} (h : ∀ H2, But a H H2 → H2 a = some o → k H2) : k (upd H a o) := h _ But.upd upd_same
end
end GG

/-! GT: loops, comprehensions, makings, tries, isinstance: the readings step by step. -/
namespace GG
open PySem L2 PyProof.Rows

/-! ### more rules for any operands -/
def cMin2 : List V → Hp → VK → Prop := fun xs H Q => ∃ i j, xs = [.int i, .int j] ∧ Q (.int (if j < i then j else i)) H
def cMax2 : List V → Hp → VK → Prop := fun xs H Q => ∃ i j, xs = [.int i, .int j] ∧ Q (.int (if j > i then j else i)) H
def cAbs : List V → Hp → VK → Prop := fun xs H Q => ∃ i, xs = [.int i] ∧ Q (.int (if i < 0 then -i else i)) H
section
variable {X : Cx}
theorem c_min2 (hc : X.calm = true) : CallR X (.builtin "min") cMin2 := call_min2 hc
theorem c_max2 (hc : X.calm = true) : CallR X (.builtin "max") cMax2 := call_max2 hc
theorem c_min1 (K : PySem.W.Frag) (hc : X.calm = true) (hK : X.K = K := by rfl) : CallR X (.builtin "min") (rMin K) := by subst hK; exact cr_min hc
theorem c_max1 (K : PySem.W.Frag) (hc : X.calm = true) (hK : X.K = K := by rfl) : CallR X (.builtin "max") (rMax K) := by subst hK; exact cr_max hc
theorem c_abs : CallR X (.builtin "abs") cAbs := call_abs
end

theorem cd_small {i j : Int} (h0 : 0 < j) (h1 : j ≤ 1000000) : CD i j := ⟨by omega, Nat.lt_trans (PySem.Flt.log2_lt_of (k := 20) (by decide) (by omega)) (by decide)⟩
theorem kit_self {K : PySem.W.Frag} {C : Addr} : PySem.W.kitOne K (.ref C) (.ref C) = some true := by
  unfold PySem.W.kitOne
  rw [if_pos (beq_self_eq_true _)]
theorem not_first {K : PySem.W.Frag} {C : Addr} {t : Value} (h : PySem.W.subIn K t (.ref C) = some false) : PySem.W.notFirst K C t = true := by
  unfold PySem.W.notFirst
  rw [h]
  simp
theorem right_mk {K : PySem.W.Frag} {C : Addr} {T nm : String} {d r : Str} {fo ro rc : Option Value} (hd : PySem.dunder nm = d) (hr : dunderR nm = r) (r1 : PySem.W.findIn K (.type T) d = some fo) (r2 : PySem.W.findIn K (.type T) r = some ro) (r3 : PySem.W.findIn K (.ref C) r = some rc)
    (r3' : rc = none ∨ ∃ g : Addr, rc = some (.ref g)) (r4 : PySem.W.subIn K (.type T) (.ref C) = some false) : RightT K C T nm := by
  subst hd
  subst hr
  exact ⟨⟨_, r1⟩, ⟨_, r2⟩, ⟨_, r3, r3'⟩, r4⟩
/-- what the top has written of an own class x, at C -/
structure OwnC (K : PySem.W.Frag) (mg : Str → Option Value) (x : Str) (C : Addr) : Prop where
  g : mg x = some (.ref C)
  cl : Cls K C
  sf : PySem.W.selfFirst K C = true
  ha : PySem.W.findIn K (.ref C) "__class__" = some (some (.builtin "object.__class__"))
  hn : PySem.W.specialIn K (.builtin "object.__class__") "__get__" = some (some (.builtin "getset_descriptor.__get__"))
  ht : PySem.W.takesIn K (.builtin "object.__class__") = some true
  hm : PySem.W.mroIn K C (.type "object") = some true
  ki : PySem.W.kitOne K (.ref C) (.ref C) = some true
theorem OwnC.ty {K : PySem.W.Frag} {mg : Str → Option Value} {x : Str} {C a dx : Addr} {H : Hp} {fs : List (Str × V)} (O : OwnC K mg x C) (e : H a = some (.ins C dx fs)) : TyX K H (.ref a) (.ref C) := .base (.ins e O.cl O.ha O.hn O.ht O.hm)

/-- a continuation at slots with one set -/
def Kont (nx : L2.St → Hp → Prop) (σ : L2.St) (n : Nat) (v : Option V) (H : Hp) : Prop := nx (σ.set n v) H
/-- a value's truth, as a test -/
def tTru (K : PySem.W.Frag) (te : TE) : TT := fun σ H Q => te σ H fun x H' => rTru K x H' Q
theorem pt_tru (K : PySem.W.Frag) {X : Cx} {a : Expr} {ta : TE} (ha : PE X a ta) (he : ∀ whole, isTrue a X.env whole = (do let v ← whole; standAt a.pos; holding [v] (truthy v))) (hK : X.K = K := by rfl) : PT X a (tTru K ta) := by subst hK; exact pt_truth ha he
section
variable {K : PySem.W.Frag} {mg : Str → Option Value} {nx bk ct : L2.St → Hp → Prop} {rt : VK} {σ : L2.St} {H : Hp} {t u : TS} {te ta tb tc : TE} {tt tu : TT} {as : TA} {Q : VK} {QB : Bool → Hp → Prop} {QA : List V → Hp → Prop} {v x y : V} {E : L2.St → XK} {sp : Sp} {i j : Int}
theorem v_min2 (q : Q (.int (min i j)) H) : cMin2 [.int i, .int j] H Q := ⟨i, j, rfl, by rw [show (if j < i then j else i) = min i j by split <;> omega]; exact q⟩
theorem v_max2 (q : Q (.int (max i j)) H) : cMax2 [.int i, .int j] H Q := ⟨i, j, rfl, by rw [show (if j > i then j else i) = max i j by split <;> omega]; exact q⟩
theorem v_abs (q : Q (.int (if i < 0 then -i else i)) H) : cAbs [.int i] H Q := ⟨i, rfl, q⟩
theorem v_min1 {a : Addr} {ns : List Int} (ha : H a = some (.lst (ns.map V.int))) (h : 0 < ns.length) (q : ∀ m, m ∈ ns → (∀ y, y ∈ ns → m ≤ y) → Q (.int m) H) : rMin K [.ref a] H Q := ⟨a, ns, rfl, SqL.of ha, h, q⟩
theorem v_max1 {a : Addr} {ns : List Int} (ha : H a = some (.lst (ns.map V.int))) (h : 0 < ns.length) (q : ∀ m, m ∈ ns → (∀ y, y ∈ ns → y ≤ m) → Q (.int m) H) : rMax K [.ref a] H Q := ⟨a, ns, rfl, SqL.of ha, h, q⟩
/-! ### isinstance -/
theorem v_isII (q : Q (.bl true) H) : rIsi K [.int i, .ty "int"] H Q := ⟨.int i, .ty "int", .type "int", .type "int", true, rfl, .ty _, .base (.int i), kit_ty (by decide +kernel), q⟩
theorem v_isIB (q : Q (.bl false) H) : rIsi K [.int i, .ty "bool"] H Q := ⟨.int i, .ty "bool", .type "int", .type "bool", false, rfl, .ty _, .base (.int i), kit_ty (by decide +kernel), q⟩
theorem v_isBB {b : Bool} (q : Q (.bl true) H) : rIsi K [.bl b, .ty "bool"] H Q := ⟨.bl b, .ty "bool", .type "bool", .type "bool", true, rfl, .ty _, .base (.bl b), kit_ty (by decide +kernel), q⟩
theorem v_isO {n : Str} {C a dx : Addr} {fs : List (Str × V)} (e : H a = some (.ins C dx fs)) (O : OwnC K mg n C) (q : Q (.bl true) H) : rIsi K [.ref a, .ref C] H Q := ⟨.ref a, .ref C, .ref C, .ref C, true, rfl, .own C, O.ty e, O.ki, q⟩
theorem v_isX {n : Str} {a C fI dd : Addr} {v c : V} {cv : Value} {b : Bool} (T : PySem.GErr.ErrTxt K mg n C fI) (hd : H dd = some (.xd (subj v))) (k : PySem.W.kitOne K (.ref C) cv = some b) (hc : ClsV c cv) (q : Q (.bl b) H) : rIsX K mg a (.ref C) (some dd) [.ref a, c] H Q :=
  ⟨n, C, fI, dd, v, c, cv, b, rfl, rfl, T, rfl, hd, hc, k, q⟩
/-! ### e.subject -/
def rSubj (K : PySem.W.Frag) (mg : Str → Option Value) (a : Addr) (cls : Value) (d : Option Addr) (x : V) (H : Hp) (Q : VK) : Prop := x = .ref a ∧ ∃ (n : Str) (C fI dd : Addr) (v : V), cls = .ref C ∧ PySem.GErr.ErrTxt K mg n C fI ∧ d = some dd ∧ H dd = some (.xd (subj v)) ∧ Q v H
theorem st_subj {a : Addr} {cls : Value} {d : Option Addr} (h : te σ H fun x H1 => rSubj K mg a cls d x H1 Q) : tSubj K mg a cls d te σ H Q := h
theorem v_subj {n : Str} {a C fI dd : Addr} (T : PySem.GErr.ErrTxt K mg n C fI) (hd : H dd = some (.xd (subj v))) (q : Q v H) : rSubj K mg a (.ref C) (some dd) (.ref a) H Q := ⟨rfl, n, C, fI, dd, v, rfl, T, rfl, hd, q⟩
/-! ### raise -/
def rRaise (C : Addr) (W : WX) (σ : L2.St) (vs : List V) (H : Hp) : Prop := ∃ v, vs = [v] ∧ ∀ d, H d = none → W (.ref C) (some d) σ (upd H d (.xd (subj v)))
theorem run_raise {C : Addr} {W : WX} (h : as σ H fun vs H1 => rRaise C W σ vs H1) : Run (tRaiseErr C W as) nx rt bk ct σ H := h
theorem v_raise {C : Addr} {W : WX} (h : ∀ d H2, H d = none → Ext H H2 → H2 d = some (.xd (subj v)) → W (.ref C) (some d) σ H2) : rRaise C W σ [v] H := ⟨v, rfl, fun d hd => h d _ hd (Ext.new hd) upd_same⟩
/-! ### try .. except C as n -/
theorem run_tryAs {K : PySem.W.Frag} {c : Value} {i : Nat} {ts : Addr → Obj → Value → Option Addr → List (Addr × Obj) → TS} {Wout : WX} {tb : WX → List (Addr × Obj) → (Value → Shared → Prop) → TS} (h : ∀ pn xe, Run (tb (wAs K c i (tAll ts) Wout ⟨nx, rt, bk, ct⟩) pn xe) nx rt bk ct σ H) :
    Run (tTryAs K c i ts Wout tb) nx rt bk ct σ H := h
theorem run_tryOnly {K : PySem.W.Frag} {c : Value} {ts : Addr → Obj → Value → Option Addr → List (Addr × Obj) → TS} {Wout : WX} {tb : WX → List (Addr × Obj) → (Value → Shared → Prop) → TS} (h : ∀ pn xe, Run (tb (wOnly K c (tAll ts) Wout ⟨nx, rt, bk, ct⟩) pn xe) nx rt bk ct σ H) :
    Run (tTryOnly K c ts Wout tb) nx rt bk ct σ H := h
theorem w_only {K : PySem.W.Frag} {c cls : Value} {d : Option Addr} {ts : Addr → Obj → Value → Option Addr → List (Addr × Obj) → TS} {Wout : WX} (hm : PySem.W.exmOne K cls c = some true)
    (q : ∀ a oe pn, H a = none → Run (ts a oe cls d pn) nx rt bk ct σ H) : wOnly K c (tAll ts) Wout ⟨nx, rt, bk, ct⟩ cls d σ H :=
  ⟨true, hm, fun _ a ha oe pn => q a oe pn ha, fun z => nomatch z⟩
theorem w_as {K : PySem.W.Frag} {c cls : Value} {i : Nat} {d : Option Addr} {ts : Addr → Obj → Value → Option Addr → List (Addr × Obj) → TS} {Wout : WX} (hm : PySem.W.exmOne K cls c = some true)
    (q : ∀ a oe pn, H a = none → Kont (fun σ1 H1 => Run (ts a oe cls d pn) (fun σ' H' => Kont nx σ' i none H') rt (fun σ' H' => Kont bk σ' i none H') (fun σ' H' => Kont ct σ' i none H') σ1 H1) σ i (some (.ref a)) H) : wAs K c i (tAll ts) Wout ⟨nx, rt, bk, ct⟩ cls d σ H :=
  ⟨true, hm, fun _ a ha oe pn => q a oe pn ha, fun z => nomatch z⟩
/-! ### C(..) -/
def rMk (C : Addr) (sp : Sp) (E : XK) (vs : List V) (H : Hp) (Q : VK) : Prop := ∀ x dx, H x = none → H dx = none → dx ≠ x → sp (.ref x :: vs) (upd (upd H dx (.own x)) x (.ins C dx [])) (fun v H2 => v = .non ∧ Q (.ref x) H2) E
theorem st_mk {C : Addr} {dvs : List V} (h : as σ H fun vs H1 => rMk C sp (E σ) (vs ++ dvs) H1 Q) : tMkS C sp dvs E as σ H Q := h
/-- the new instance: what was stays, the instance is x -/
theorem v_mk {C : Addr} {vs : List V} {E : XK} (h : ∀ x dx H1, H x = none → Ext H H1 → H1 x = some (.ins C dx []) → sp (.ref x :: vs) H1 (fun v H2 => v = .non ∧ Q (.ref x) H2) E) : rMk C sp E vs H Q := fun x dx hx hd hn =>
  h x dx _ hx (fun a o e => by rw [upd_ne (ne_of_none e hx), upd_ne (ne_of_none e hd)]; exact e) upd_same
/-! ### list(range(..)) -/
def rLstRg (a b : Int) (H : Hp) (Q : VK) : Prop := RgOk a b ∧ ∀ q, H q = none → Q (.ref q) (upd H q (.lst (rgV a b)))
def rRg2 (x y : V) (H : Hp) (Q : Int → Int → Hp → Prop) : Prop := ∃ i j, x = .int i ∧ y = .int j ∧ Q i j H
theorem st_lstRg2 (h : ta σ H fun x H1 => tb σ H1 fun y H2 => rRg2 x y H2 fun a b H3 => rLstRg a b H3 Q) : tLstRg (tRg2 ta tb) σ H Q := h
theorem v_rg2 {Q : Int → Int → Hp → Prop} (q : Q i j H) : rRg2 (.int i) (.int j) H Q := ⟨i, j, rfl, rfl, q⟩
theorem v_lstRg (hr : RgOk i j) (h : ∀ p H2, H p = none → Ext H H2 → H2 p = some (.lst (rgV i j)) → Q (.ref p) H2) : rLstRg i j H Q := ⟨hr, fun p hp => h p _ hp (Ext.new hp) upd_same⟩
/-! ### own operators -/
theorem v_own {C a b dx dy : Addr} {fs gs : List (Str × V)} (ha : H a = some (.ins C dx fs)) (hb : H b = some (.ins C dy gs)) (q : sp [.ref a, .ref b] H Q (E σ)) : rOwn C sp E σ (.ref a) (.ref b) H Q := ⟨a, dx, fs, b, dy, gs, rfl, ha, rfl, hb, q⟩
theorem v_ownI {C a dx : Addr} {fs : List (Str × V)} (ha : H a = some (.ins C dx fs)) (q : sp [.ref a, .int i] H Q (E σ)) : rOwnI C sp E σ (.ref a) (.int i) H Q := ⟨a, dx, fs, i, rfl, ha, rfl, q⟩
theorem v_ownIn {C a dx : Addr} {fs : List (Str × V)} (ha : H a = some (.ins C dx fs)) (q : sp [.ref a, y] H (fun v H' => rTest v H' fun c H' => Q (.bl c) H') (E σ)) : rOwnIn C sp E σ y (.ref a) H Q := ⟨a, dx, fs, rfl, ha, q⟩
theorem v_own1 {C a dx : Addr} {fs : List (Str × V)} (ha : H a = some (.ins C dx fs)) (q : sp [.ref a] H Q (E σ)) : rOwn1 C sp E σ (.ref a) H Q := ⟨a, dx, fs, rfl, ha, q⟩
theorem v_ownC {C a dx : Addr} {fs : List (Str × V)} (ha : H a = some (.ins C dx fs)) (q : sp [.ref a] H Q (E σ)) : rOwnC C sp E σ [.ref a] H Q := ⟨a, dx, fs, rfl, ha, q⟩
theorem v_ownB {C a dx : Addr} {fs : List (Str × V)} (ha : H a = some (.ins C dx fs)) (q : sp [.ref a] H (fun v H' => rTest v H' fun c H' => Q (.bl c) H') (E σ)) : rOwnB C sp E σ [.ref a] H Q := ⟨a, dx, fs, rfl, ha, q⟩
theorem v_ownLen {C a dx : Addr} {fs : List (Str × V)} (ha : H a = some (.ins C dx fs)) (q : sp [.ref a] H (fun v H' => ∃ n : Int, v = .int n ∧ 0 ≤ n ∧ n < 2 ^ 63 ∧ Q (.int n) H') (E σ)) : rOwnLen C sp E σ [.ref a] H Q := ⟨a, dx, fs, rfl, ha, q⟩
/-! ### targets -/
theorem g_name {n : Nat} {k : L2.St → Hp → Prop} (h : k (σ.set n (some v)) H) : gName n v σ H k := h
theorem g_tup {a : Addr} {xs : List V} {n : Nat} {tg : TGs} {k : L2.St → Hp → Prop} (ha : H a = some (.tup xs)) (hl : xs.length = n) (h : tg xs σ H k) : gTup K n tg (.ref a) σ H k := ⟨a, xs, rfl, SqT.of ha, hl, h⟩
theorem g_cons {xs : List V} {g : TG} {tg : TGs} {k : L2.St → Hp → Prop} (h : g v σ H fun σ' H' => tg xs σ' H' k) : gCons g tg (v :: xs) σ H k := ⟨v, xs, rfl, h⟩
theorem g_nil {k : L2.St → Hp → Prop} (h : k σ H) : gNil [] σ H k := ⟨rfl, h⟩
/-! ### for -/
def rFor (J : It) (g : TG) (t : TS) (nx : L2.St → Hp → Prop) (rt : VK) (bk ct : L2.St → Hp → Prop) (σ : L2.St) (H : Hp) : Prop := ∃ W : Nat → Nat → L2.St → Hp → Prop, (∃ m, W 0 m σ H) ∧ ∀ i m σ H, W i m σ H →
  (J.stop i H ∧ nx σ H) ∨ (J.go i H ∧ ∃ N : L2.St → Hp → Prop, (∀ σ' H', N σ' H' → ∃ m', m' < m ∧ W (i + 1) m' σ' H') ∧ ∀ x H', J.yld i H x H' → g x σ H' fun σ2 H2 => t ⟨N, rt, nx, N⟩ σ2 H2)
theorem run_for {wi : TI} {g : TG} (h : wi σ H fun J H1 => rFor J g t nx rt bk ct σ H1) : Run (tFor wi g t) nx rt bk ct σ H := h
def rRng1 (vs : List V) (H : Hp) (R : It → Hp → Prop) : Prop := ∃ j : Int, vs = [.int j] ∧ -(2 ^ 62) ≤ j ∧ j < 2 ^ 62 ∧ R (Itr 0 j.toNat) H
def rRng2 (vs : List V) (H : Hp) (R : It → Hp → Prop) : Prop := ∃ i j : Int, vs = [.int i, .int j] ∧ (-(2 ^ 62) ≤ i ∧ i < 2 ^ 62 ∧ -(2 ^ 62) ≤ j ∧ j < 2 ^ 62) ∧ R (Itr i (j - i).toNat) H
def rSeqL (K : PySem.W.Frag) (x : V) (H : Hp) (R : It → Hp → Prop) : Prop := ∃ a, x = .ref a ∧ (∃ xs, SqL K H a xs) ∧ R (Itl K a) H
def rSeqT (K : PySem.W.Frag) (x : V) (H : Hp) (R : It → Hp → Prop) : Prop := ∃ a, x = .ref a ∧ (∃ xs, SqT K H a xs) ∧ R (Itt K a) H
theorem i_rng1 {R : It → Hp → Prop} (h : as σ H fun vs H1 => rRng1 vs H1 R) : iRng1 as σ H R := h
theorem i_rng2 {R : It → Hp → Prop} (h : as σ H fun vs H1 => rRng2 vs H1 R) : iRng2 as σ H R := h
theorem i_list {R : It → Hp → Prop} (h : te σ H fun x H1 => rSeqL K x H1 R) : iList K te σ H R := h
theorem i_tup {R : It → Hp → Prop} (h : te σ H fun x H1 => rSeqT K x H1 R) : iTup K te σ H R := h
theorem r_rng1 {R : It → Hp → Prop} (h0 : -1000000 ≤ j) (h1 : j ≤ 1000000) (q : R (Itr 0 j.toNat) H) : rRng1 [.int j] H R := ⟨j, rfl, by omega, by omega, q⟩
theorem r_rng2 {R : It → Hp → Prop} (h0 : -1000000 ≤ i) (h1 : i ≤ 1000000) (h2 : -1000000 ≤ j) (h3 : j ≤ 1000000) (q : R (Itr i (j - i).toNat) H) : rRng2 [.int i, .int j] H R := ⟨i, j, rfl, ⟨by omega, by omega, by omega, by omega⟩, q⟩
theorem r_seqL {R : It → Hp → Prop} {a : Addr} {xs : List V} (ha : H a = some (.lst xs)) (q : R (Itl K a) H) : rSeqL K (.ref a) H R := ⟨a, rfl, ⟨xs, SqL.of ha⟩, q⟩
theorem r_seqLK {R : It → Hp → Prop} {a : Addr} {xs : List V} (ha : SqL K H a xs) (q : R (Itl K a) H) : rSeqL K (.ref a) H R := ⟨a, rfl, ⟨xs, ha⟩, q⟩
theorem r_seqT {R : It → Hp → Prop} {a : Addr} {xs : List V} (ha : H a = some (.tup xs)) (q : R (Itt K a) H) : rSeqT K (.ref a) H R := ⟨a, rfl, ⟨xs, SqT.of ha⟩, q⟩
/-- a range, by a word of the turn -/
theorem f_range {lo : Int} {n : Nat} {g : TG} (Pv : Nat → L2.St → Hp → Prop) (h0 : Pv 0 σ H) (hs : ∀ i σ H, i < n → Pv i σ H → g (.int (lo + i)) σ H fun σ2 H2 => Run t (Pv (i + 1)) rt nx (Pv (i + 1)) σ2 H2) (hd : ∀ σ H, Pv n σ H → nx σ H) :
    rFor (Itr lo n) g t nx rt bk ct σ H := for_range (D := ⟨nx, rt, bk, ct⟩) Pv h0 hs hd
/-- range(n) from 0 -/
theorem f_range0 {n : Nat} {g : TG} (Pv : Nat → L2.St → Hp → Prop) (h0 : Pv 0 σ H) (hs : ∀ (i : Nat) σ H, i < n → Pv i σ H → g (.int (i : Int)) σ H fun σ2 H2 => Run t (Pv (i + 1)) rt nx (Pv (i + 1)) σ2 H2) (hd : ∀ σ H, Pv n σ H → nx σ H) :
    rFor (Itr 0 n) g t nx rt bk ct σ H := f_range Pv h0 (fun i σ H hi p => by rw [show (0 : Int) + (i : Int) = (i : Int) by omega]; exact hs i σ H hi p) hd
theorem v_ixLn {a : Addr} {xs : List V} {n : Nat} (ha : H a = some (.lst xs)) (h : xs[n]? = some v) (q : Q v H) : uIx K (.ref a) (.int (n : Int)) H Q := v_ixL ha (by omega) h q
theorem v_setN {a : Addr} {xs : List V} {n : Nat} {k : Hp → Prop} (ha : H a = some (.lst xs)) (h : n < xs.length) (q : ∀ H2, But a H H2 → H2 a = some (.lst (xs.set n v)) → k H2) : uSet (.ref a) (.int (n : Int)) v H k := v_set ha (by omega) h q
theorem f_list {a : Addr} {xs : List V} {g : TG} (Pv : Nat → L2.St → Hp → Prop) (h0 : Pv 0 σ H) (hl : ∀ i σ H, i ≤ xs.length → Pv i σ H → SqL K H a xs) (hs : ∀ i x σ H, xs[i]? = some x → Pv i σ H → g x σ H fun σ2 H2 => Run t (Pv (i + 1)) rt nx (Pv (i + 1)) σ2 H2)
    (hd : ∀ σ H, Pv xs.length σ H → nx σ H) : rFor (Itl K a) g t nx rt bk ct σ H := for_list (D := ⟨nx, rt, bk, ct⟩) Pv h0 hl hs hd
theorem f_tup {a : Addr} {xs : List V} {g : TG} (Pv : Nat → L2.St → Hp → Prop) (h0 : Pv 0 σ H) (hl : ∀ i σ H, i ≤ xs.length → Pv i σ H → SqT K H a xs) (hs : ∀ i x σ H, xs[i]? = some x → Pv i σ H → g x σ H fun σ2 H2 => Run t (Pv (i + 1)) rt nx (Pv (i + 1)) σ2 H2)
    (hd : ∀ σ H, Pv xs.length σ H → nx σ H) : rFor (Itt K a) g t nx rt bk ct σ H := for_tup (D := ⟨nx, rt, bk, ct⟩) Pv h0 hl hs hd
/-! ### [e for x in ..], without an if -/
def rLc (J : It) (g : TG) (tt : TT) (te : TE) (vs : List Nat) (σ : L2.St) (H1 : Hp) (Q : VK) : Prop := ∀ D, H1 D = none → ∃ W : Nat → Nat → Hp → Prop, (∃ m, W 0 m (upd H1 D (.lst []))) ∧ ∀ i m H, W i m H →
  (J.stop i H ∧ Q (.ref D) H) ∨ (J.go i H ∧ ∃ Nx : Hp → Prop, (∀ H', Nx H' → ∃ m', m' < m ∧ W (i + 1) m' H') ∧ ∀ x H', J.yld i H x H' → g x (wipe σ vs) H' fun σ2 H2 => wipe σ2 vs = wipe σ vs ∧ tt σ2 H2 fun b H3 =>
    if b = true then te σ2 H3 fun y H4 => ∃ acc, H4 D = some (.lst acc) ∧ acc.length < sizeLine ∧ Nx (upd H4 D (.lst (acc ++ [y]))) else Nx H3)
theorem st_lc {wi : TI} {g : TG} {vs : List Nat} (h : wi σ H fun J H1 => rLc J g tt te vs σ H1 Q) : tLc wi g tt te vs σ H Q := h
/-- one item more at D -/
def rAcc (D : Addr) (k : Hp → Prop) (y : V) (H : Hp) : Prop := ∃ acc, H D = some (.lst acc) ∧ acc.length < sizeLine ∧ k (upd H D (.lst (acc ++ [y])))
/-- D holds acc, n items, of which Pv -/
def LcAt (D : Addr) (n : Nat) (Pv : List V → Hp → Prop) (H : Hp) : Prop := ∃ acc, H D = some (.lst acc) ∧ acc.length = n ∧ Pv acc H
theorem v_acc {D : Addr} {n : Nat} {acc : List V} {Pv : List V → Hp → Prop} (ha : H D = some (.lst acc)) (hl : acc.length = n) (hz : n < 1000000) (q : ∀ H2, But D H H2 → H2 D = some (.lst (acc ++ [y])) → Pv (acc ++ [y]) H2) : rAcc D (LcAt D (n + 1) Pv) y H :=
  ⟨acc, ha, by rw [hl]; exact Nat.lt_of_lt_of_le hz (by decide), acc ++ [y], upd_same, by rw [List.length_append, hl]; rfl, q _ But.upd upd_same⟩
theorem lc_rng {lo : Int} {n : Nat} {g : TG} {vs : List Nat} (Pv : Nat → Addr → List V → Hp → Prop) (h0 : ∀ D H1, H D = none → Ext H H1 → H1 D = some (.lst []) → Pv 0 D [] H1)
    (hs : ∀ i D acc H1, H D = none → i < n → H1 D = some (.lst acc) → acc.length = i → Pv i D acc H1 → g (.int (lo + i)) (wipe σ vs) H1 fun σ2 H2 => wipe σ2 vs = wipe σ vs ∧ te σ2 H2 fun y H4 => rAcc D (LcAt D (i + 1) (Pv (i + 1) D)) y H4)
    (hd : ∀ D acc H1, H D = none → H1 D = some (.lst acc) → acc.length = n → Pv n D acc H1 → Q (.ref D) H1) : rLc (Itr lo n) g tYes te vs σ H Q := by
  intro D hD
  refine lc_range (Pv := fun i H1 => LcAt D i (Pv i D) H1) ⟨[], upd_same, rfl, h0 D _ hD (Ext.new hD) upd_same⟩ ?_ ?_
  · rintro i H1 hi ⟨acc, ha, hl, hp⟩
    exact hs i D acc H1 hD hi ha hl hp
  · rintro H1 ⟨acc, ha, hl, hp⟩
    exact hd D acc H1 hD ha hl hp
theorem lc_lst {a : Addr} {xs : List V} {g : TG} {vs : List Nat} (Pv : Nat → Addr → List V → Hp → Prop) (h0 : ∀ D H1, H D = none → Ext H H1 → H1 D = some (.lst []) → Pv 0 D [] H1)
    (hl : ∀ i D acc H1, H D = none → i ≤ xs.length → Pv i D acc H1 → SqL K H1 a xs)
    (hs : ∀ i x D acc H1, H D = none → xs[i]? = some x → H1 D = some (.lst acc) → acc.length = i → Pv i D acc H1 → g x (wipe σ vs) H1 fun σ2 H2 => wipe σ2 vs = wipe σ vs ∧ te σ2 H2 fun y H4 => rAcc D (LcAt D (i + 1) (Pv (i + 1) D)) y H4)
    (hd : ∀ D acc H1, H D = none → H1 D = some (.lst acc) → acc.length = xs.length → Pv xs.length D acc H1 → Q (.ref D) H1) : rLc (Itl K a) g tYes te vs σ H Q := by
  intro D hD
  refine lc_list (xs := xs) (Pv := fun i H1 => LcAt D i (Pv i D) H1) ⟨[], upd_same, rfl, h0 D _ hD (Ext.new hD) upd_same⟩ ?_ ?_ ?_
  · rintro i H1 hi ⟨acc, ha, hl', hp⟩
    exact hl i D acc H1 hD hi hp
  · rintro i x H1 hi ⟨acc, ha, hl', hp⟩
    exact hs i x D acc H1 hD hi ha hl' hp
  · rintro H1 ⟨acc, ha, hl', hp⟩
    exact hd D acc H1 hD ha hl' hp
end
end GG

/-! GU: the steps that ask nothing, found by instances. -/
namespace GG
open PySem L2 PyProof.Rows
class St1 (P : Prop) (P' : outParam Prop) : Prop where
  h : P' → P
class StN (P : Prop) (P' : outParam Prop) : Prop where
  h : P' → P
class StP (P : Prop) (P' : outParam Prop) : Prop where
  h : P' → P
instance (priority := low) stn_rfl {P : Prop} : StN P P := ⟨id⟩
instance stn_step {P P1 P' : Prop} [a : St1 P P1] [b : StN P1 P'] : StN P P' := ⟨fun h => a.h (b.h h)⟩
instance stp_step {P P1 P' : Prop} [a : St1 P P1] [b : StN P1 P'] : StP P P' := ⟨fun h => a.h (b.h h)⟩
/-- the value in a slot -/
class Slot1 (σ : L2.St) (i : Nat) (v : outParam V) : Prop where
  h : σ[i]? = some (some v)
instance slot_here {v : V} {σ : L2.St} : Slot1 (some v :: σ) 0 v := ⟨rfl⟩
instance slot_next {x : Option V} {σ : L2.St} {i : Nat} {v : V} [a : Slot1 σ i v] : Slot1 (x :: σ) (i + 1) v := ⟨a.h⟩
/-- a slot set -/
class SetS (σ : L2.St) (i : Nat) (v : Option V) (σ' : outParam L2.St) : Prop where
  h : σ.set i v = σ'
instance set_here {x v : Option V} {σ : L2.St} : SetS (x :: σ) 0 v (v :: σ) := ⟨rfl⟩
instance set_next {x v : Option V} {σ σ' : L2.St} {i : Nat} [a : SetS σ i v σ'] : SetS (x :: σ) (i + 1) v (x :: σ') := ⟨by rw [List.set_cons_succ, a.h]⟩
section
variable {K : PySem.W.Frag} {mg : Str → Option Value} {nx bk ct : L2.St → Hp → Prop} {rt : VK} {σ σ' : L2.St} {H : Hp} {t u : TS} {te ta tb tc : TE} {tt tu : TT} {as tr : TA} {Q : VK} {QB : Bool → Hp → Prop} {QA : List V → Hp → Prop} {v x y : V} {E : L2.St → XK} {sp : Sp} {i j : Int} {n : Nat} {b : Bool} {A B : Prop}
/-- the statements behind, by a name -/
theorem run_seqG (h : ∀ r, r = u → Run t (fun σ' H' => Run r nx rt bk ct σ' H') rt bk ct σ H) : Run (tSeq t u) nx rt bk ct σ H := h u rfl
theorem run_rest (r : TS) (h : Run r nx rt bk ct σ H) : Run r nx rt bk ct σ H := h
instance i_next : St1 (Run tNext nx rt bk ct σ H) (nx σ H) := ⟨run_next⟩
instance i_asg : St1 (Run (tAsg te (gName n)) nx rt bk ct σ H) (te σ H fun x H1 => Kont nx σ n (some x) H1) := ⟨fun h => h⟩
instance i_kont {v : Option V} [a : SetS σ n v σ'] : St1 (Kont nx σ n v H) (nx σ' H) := ⟨fun h => by unfold Kont; rw [a.h]; exact h⟩
instance i_asgS {T : TSet} : St1 (Run (tAsg te (gSub ta tb T)) nx rt bk ct σ H) (te σ H fun x H1 => ta σ H1 fun o H2 => tb σ H2 fun i H3 => T o i x H3 fun H4 => nx σ H4) := ⟨fun h => h⟩
instance i_asgT {n : Nat} {tg : TGs} : St1 (Run (tAsg te (gTup K n tg)) nx rt bk ct σ H) (te σ H fun x H1 => gTup K n tg x σ H1 nx) := ⟨fun h => h⟩
instance i_drop : St1 (Run (tDrop te) nx rt bk ct σ H) (te σ H fun _ H1 => nx σ H1) := ⟨fun h => h⟩
instance i_ret : St1 (Run (tRet te) nx rt bk ct σ H) (te σ H rt) := ⟨fun h => h⟩
instance i_retN : St1 (Run tRetN nx rt bk ct σ H) (rt .non H) := ⟨fun h => h⟩
instance i_break : St1 (Run tBreak nx rt bk ct σ H) (bk σ H) := ⟨fun h => h⟩
instance i_cont : St1 (Run tCont nx rt bk ct σ H) (ct σ H) := ⟨fun h => h⟩
instance i_ifS : St1 (Run (tIfS tt t u) nx rt bk ct σ H) (tt σ H fun b H1 => Br b (Run t nx rt bk ct σ H1) (Run u nx rt bk ct σ H1)) := ⟨fun h => h⟩
instance i_par {n m : Nat} : St1 (Run (tPar n m as) nx rt bk ct σ H) (as σ H fun vs H1 => ∃ v w, vs = [v, w] ∧ nx ((σ.set n (some v)).set m (some w)) H1) := ⟨fun h => h⟩
instance i_fldS {f : Str} : St1 (Run (sFld K ta tb f) nx rt bk ct σ H) (tb σ H fun y H1 => ta σ H1 fun x H2 => rPutF K f x y H2 (nx σ)) := ⟨fun h => h⟩
instance i_raise {C : Addr} {W : WX} : St1 (Run (tRaiseErr C W as) nx rt bk ct σ H) (as σ H fun vs H1 => rRaise C W σ vs H1) := ⟨fun h => h⟩
instance i_for {wi : TI} {g : TG} : St1 (Run (tFor wi g t) nx rt bk ct σ H) (wi σ H fun J H1 => rFor J g t nx rt bk ct σ H1) := ⟨fun h => h⟩
instance i_brT : St1 (Br true A B) A := ⟨br_t⟩
instance i_brF : St1 (Br false A B) B := ⟨br_f⟩
instance i_brN : St1 (Br (!b) A B) (Br b B A) := ⟨br_not⟩
instance i_brE {α : Type} {a : α} {d : Decidable (a = a)} : St1 (Br (@decide (a = a) d) A B) A := ⟨fun h => by rw [decide_eq_true rfl]; exact br_t h⟩
instance i_brE2 {α β : Type} {a : α} {b : β} {d : Decidable (a = a ∧ b = b)} : St1 (Br (@decide (a = a ∧ b = b) d) A B) A := ⟨fun h => by rw [decide_eq_true ⟨rfl, rfl⟩]; exact br_t h⟩
theorem br_andJ {A B : Prop} [Decidable A] [Decidable B] (h2 : ∀ Q' : VK, Q' (.bl (decide B)) H → tb σ H Q') (q : Q (.bl (decide (A ∧ B))) H) : Br (decide A) (tb σ H Q) (Q (.bl false) H) := br_d (fun a => h2 _ (by rw [dec_congr (q := A ∧ B) ⟨fun b => ⟨a, b⟩, fun z => z.2⟩]; exact q)) (fun a => by rw [← decide_eq_false (p := A ∧ B) fun z => a z.1]; exact q)
theorem br_orJ {A B : Prop} [Decidable A] [Decidable B] (h2 : ∀ Q' : VK, Q' (.bl (decide B)) H → tb σ H Q') (q : Q (.bl (decide (A ∨ B))) H) : Br (decide A) (Q (.bl true) H) (tb σ H Q) := br_d (fun a => by rw [← decide_eq_true (p := A ∨ B) (.inl a)]; exact q) (fun a => h2 _ (by rw [dec_congr (q := A ∨ B) ⟨fun b => .inr b, fun z => z.resolve_left a⟩]; exact q))
/-- the slots of a comprehension's names, empty -/
class WipeS (σ : L2.St) (vs : List Nat) (σ' : outParam L2.St) : Prop where
  h : wipe σ vs = σ'
instance wipe_nil : WipeS σ [] σ := ⟨rfl⟩
instance wipe_cons {n : Nat} {vs : List Nat} {σ1 σ2 : L2.St} [a : WipeS σ vs σ1] [b : SetS σ1 n none σ2] : WipeS σ (n :: vs) σ2 := ⟨by show (wipe σ vs).set n none = σ2; rw [a.h, b.h]⟩
instance i_var [a : Slot1 σ n v] : St1 (tVar n σ H Q) (Q v H) := ⟨fun h => ⟨v, a.h, h⟩⟩
instance i_c : St1 (tC v σ H Q) (Q v H) := ⟨fun h => h⟩
instance i_op {r : R2} : St1 (tOp r ta tb σ H Q) (ta σ H fun x H1 => tb σ H1 fun y H2 => r x y H2 Q) := ⟨fun h => h⟩
instance i_opS {r : R2S} : St1 (tOpS r ta tb σ H Q) (ta σ H fun x H1 => tb σ H1 fun y H2 => r σ x y H2 Q) := ⟨fun h => h⟩
instance i_un {r : V → Hp → VK → Prop} : St1 (tUn r ta σ H Q) (ta σ H fun x H1 => r x H1 Q) := ⟨fun h => h⟩
instance i_unS {r : L2.St → V → Hp → VK → Prop} : St1 (tUnS r ta σ H Q) (ta σ H fun x H1 => r σ x H1 Q) := ⟨fun h => h⟩
instance i_nil : St1 (tNil σ H QA) (QA [] H) := ⟨fun h => h⟩
instance i_cons : St1 (tCons ta tr σ H QA) (ta σ H fun x H1 => tr σ H1 fun xs H2 => QA (x :: xs) H2) := ⟨fun h => h⟩
instance i_cb {r : List V → Hp → VK → Prop} : St1 (tCB r as σ H Q) (as σ H fun vs H1 => r vs H1 Q) := ⟨fun h => h⟩
instance i_cbS {r : L2.St → List V → Hp → VK → Prop} : St1 (tCBS r as σ H Q) (as σ H fun vs H1 => r σ vs H1 Q) := ⟨fun h => h⟩
/-- the arguments with the defaults -/
class AppV (vs ds : List V) (ws : outParam (List V)) : Prop where
  h : vs ++ ds = ws
instance app_nil {ds : List V} : AppV [] ds ds := ⟨rfl⟩
instance app_cons {vs ds ws : List V} [a : AppV vs ds ws] : AppV (v :: vs) ds (v :: ws) := ⟨by rw [List.cons_append, a.h]⟩
def SpAt (sp : Sp) (dvs vs : List V) (H : Hp) (Q : VK) (E : XK) : Prop := sp (vs ++ dvs) H Q E
instance i_fn {dvs : List V} : St1 (tCallSD sp dvs E as σ H Q) (as σ H fun vs H1 => SpAt sp dvs vs H1 Q (E σ)) := ⟨fun h => h⟩
instance i_sp {dvs vs ws : List V} {E : XK} [a : AppV vs dvs ws] : St1 (SpAt sp dvs vs H Q E) (sp ws H Q E) := ⟨fun h => by unfold SpAt; rw [a.h]; exact h⟩
def MkAt (C : Addr) (sp : Sp) (dvs vs : List V) (H : Hp) (Q : VK) (E : XK) : Prop := rMk C sp E (vs ++ dvs) H Q
instance i_mk {C : Addr} {dvs : List V} : St1 (tMkS C sp dvs E as σ H Q) (as σ H fun vs H1 => MkAt C sp dvs vs H1 Q (E σ)) := ⟨fun h => h⟩
instance i_mkA {C : Addr} {dvs vs ws : List V} {E : XK} [a : AppV vs dvs ws] : St1 (MkAt C sp dvs vs H Q E) (rMk C sp E ws H Q) := ⟨fun h => by unfold MkAt; rw [a.h]; exact h⟩
instance i_tupE : St1 (tTup as σ H Q) (as σ H fun xs H1 => rTup xs H1 Q) := ⟨fun h => h⟩
instance i_lstE : St1 (tLst as σ H Q) (as σ H fun xs H1 => rLst xs H1 Q) := ⟨fun h => h⟩
instance i_fld {f : Str} : St1 (tFld K ta f σ H Q) (ta σ H fun x H1 => rFld K f x H1 Q) := ⟨fun h => h⟩
instance i_test : St1 (tTest te σ H QB) (te σ H fun x H' => rTest x H' QB) := ⟨fun h => h⟩
instance i_testB : St1 (rTest (.bl b) H QB) (QB b H) := ⟨r_test⟩
instance i_tru : St1 (tTru K te σ H QB) (te σ H fun x H' => rTru K x H' QB) := ⟨fun h => h⟩
instance i_truB : St1 (rTru K (.bl b) H QB) (QB b H) := ⟨r_truB⟩
instance i_not : St1 (tNot tt σ H QB) (tt σ H fun c H1 => QB (!c) H1) := ⟨fun h => h⟩
instance i_and : St1 (tAnd tt tu σ H QB) (tt σ H fun c H1 => Br c (tu σ H1 QB) (QB false H1)) := ⟨fun h => h⟩
instance i_or : St1 (tOr tt tu σ H QB) (tt σ H fun c H1 => Br c (QB true H1) (tu σ H1 QB)) := ⟨fun h => h⟩
instance i_andV : St1 (tAndV ta tb σ H Q) (ta σ H fun x H1 => rAndV tb σ x H1 Q) := ⟨fun h => h⟩
instance i_orV : St1 (tOrV ta tb σ H Q) (ta σ H fun x H1 => rOrV tb σ x H1 Q) := ⟨fun h => h⟩
instance i_notV : St1 (tNotV ta σ H Q) (ta σ H fun x H1 => rNotV x H1 Q) := ⟨fun h => h⟩
instance i_andB : St1 (rAndV tb σ (.bl b) H Q) (Br b (tb σ H Q) (Q (.bl false) H)) := ⟨r_andV⟩
instance i_orB : St1 (rOrV tb σ (.bl b) H Q) (Br b (Q (.bl true) H) (tb σ H Q)) := ⟨r_orV⟩
instance i_notB : St1 (rNotV (.bl b) H Q) (Q (.bl (!b)) H) := ⟨r_notV⟩
instance i_ifE : St1 (tIf tt ta tb σ H Q) (tt σ H fun c H1 => Br c (ta σ H1 Q) (tb σ H1 Q)) := ⟨fun h => h⟩
instance i_chain {r r' : R2} : St1 (tChain r r' ta tb tc σ H Q) (ta σ H fun x H1 => tb σ H1 fun y H2 => r x y H2 fun z H3 => rChain r' tc σ y z H3 Q) := ⟨fun h => h⟩
instance i_chainB {r' : R2} : St1 (rChain r' tc σ y (.bl b) H Q) (Br b (tc σ H fun w' H4 => r' y w' H4 Q) (Q (.bl false) H)) := ⟨r_chain⟩
instance j_add : St1 (uAdd K (.int i) (.int j) H Q) (Q (.int (i + j)) H) := ⟨v_add⟩
instance j_sub : St1 (uSub (.int i) (.int j) H Q) (Q (.int (i - j)) H) := ⟨v_sub⟩
instance j_lt : St1 (uLt (.int i) (.int j) H Q) (Q (.bl (decide (i < j))) H) := ⟨v_lt⟩
instance j_le : St1 (uLe (.int i) (.int j) H Q) (Q (.bl (decide (i ≤ j))) H) := ⟨v_le⟩
instance j_gt : St1 (uGt (.int i) (.int j) H Q) (Q (.bl (decide (j < i))) H) := ⟨v_gt⟩
instance j_ge : St1 (uGe (.int i) (.int j) H Q) (Q (.bl (decide (j ≤ i))) H) := ⟨v_ge⟩
instance j_eq : St1 (uEq K (.int i) (.int j) H Q) (Q (.bl (decide (i = j))) H) := ⟨v_eq⟩
instance j_ne : St1 (uNe K (.int i) (.int j) H Q) (Q (.bl (!decide (i = j))) H) := ⟨v_ne⟩
instance j_eqB {b b' : Bool} : St1 (uEq K (.bl b) (.bl b') H Q) (Q (.bl (decide (b = b'))) H) := ⟨v_eqB⟩
instance j_neB {b b' : Bool} : St1 (uNe K (.bl b) (.bl b') H Q) (Q (.bl (!decide (b = b'))) H) := ⟨v_neB⟩
instance j_eqS {z z' : Str} : St1 (uEq K (.str z) (.str z') H Q) (Q (.bl (decide (z = z'))) H) := ⟨v_eqS⟩
instance j_neS {z z' : Str} : St1 (uNe K (.str z) (.str z') H Q) (Q (.bl (!decide (z = z'))) H) := ⟨v_neS⟩
instance j_neg : St1 ((rU fun i => .int (-i)) (.int i) H Q) (Q (.int (-i)) H) := ⟨v_neg⟩
instance j_int : St1 (cInt [.int i] H Q) (Q (.int i) H) := ⟨v_int⟩
instance j_intB : St1 (cInt [.bl b] H Q) (Q (.int (if b then 1 else 0)) H) := ⟨v_intB⟩
instance j_bool : St1 (cBool [.bl b] H Q) (Q (.bl b) H) := ⟨v_boolB⟩
instance j_min : St1 (cMin2 [.int i, .int j] H Q) (Q (.int (min i j)) H) := ⟨v_min2⟩
instance j_max : St1 (cMax2 [.int i, .int j] H Q) (Q (.int (max i j)) H) := ⟨v_max2⟩
instance j_abs : St1 (cAbs [.int i] H Q) (Q (.int (if i < 0 then -i else i)) H) := ⟨v_abs⟩
instance j_isII : St1 (rIsi K [.int i, .ty "int"] H Q) (Q (.bl true) H) := ⟨v_isII⟩
instance j_isIB : St1 (rIsi K [.int i, .ty "bool"] H Q) (Q (.bl false) H) := ⟨v_isIB⟩
instance j_isBB : St1 (rIsi K [.bl b, .ty "bool"] H Q) (Q (.bl true) H) := ⟨v_isBB⟩
instance i_subj {a : Addr} {cls : Value} {d : Option Addr} : St1 (tSubj K mg a cls d te σ H Q) (te σ H fun x H1 => rSubj K mg a cls d x H1 Q) := ⟨fun h => h⟩
instance i_lstRg2 : St1 (tLstRg (tRg2 ta tb) σ H Q) (ta σ H fun x H1 => tb σ H1 fun y H2 => rRg2 x y H2 fun a b H3 => rLstRg a b H3 Q) := ⟨fun h => h⟩
instance j_rg2 {Q : Int → Int → Hp → Prop} : St1 (rRg2 (.int i) (.int j) H Q) (Q i j H) := ⟨v_rg2⟩
instance i_gname {k : L2.St → Hp → Prop} : St1 (gName n v σ H k) (Kont k σ n (some v) H) := ⟨fun h => h⟩
instance i_gcons {xs : List V} {g : TG} {tg : TGs} {k : L2.St → Hp → Prop} : St1 (gCons g tg (v :: xs) σ H k) (g v σ H fun σ' H' => tg xs σ' H' k) := ⟨g_cons⟩
instance i_gnil {k : L2.St → Hp → Prop} : St1 (gNil [] σ H k) (k σ H) := ⟨g_nil⟩
instance i_irng1 {R : It → Hp → Prop} : St1 (iRng1 as σ H R) (as σ H fun vs H1 => rRng1 vs H1 R) := ⟨fun h => h⟩
instance i_irng2 {R : It → Hp → Prop} : St1 (iRng2 as σ H R) (as σ H fun vs H1 => rRng2 vs H1 R) := ⟨fun h => h⟩
instance i_ilist {R : It → Hp → Prop} : St1 (iList K te σ H R) (te σ H fun x H1 => rSeqL K x H1 R) := ⟨fun h => h⟩
instance i_itup {R : It → Hp → Prop} : St1 (iTup K te σ H R) (te σ H fun x H1 => rSeqT K x H1 R) := ⟨fun h => h⟩
instance i_lc {wi : TI} {g : TG} {vs : List Nat} : St1 (tLc wi g tt te vs σ H Q) (wi σ H fun J H1 => rLc J g tt te vs σ H1 Q) := ⟨fun h => h⟩
instance i_bm {T : String} {r : V → List V → Hp → VK → Prop} : St1 (tBM K T r ta as σ H Q) (ta σ H fun x H1 => tyV K T x H1 ∧ as σ H1 fun xs H2 => r x xs H2 Q) := ⟨fun h => h⟩
instance i_bm0 {T : String} {r : V → List V → Hp → VK → Prop} : St1 (tBM0 K T r ta σ H Q) (ta σ H fun x H1 => tyV K T x H1 ∧ r x [] H1 Q) := ⟨fun h => h⟩
/-- the element of a comprehension, its names set -/
def LcK (vs : List Nat) (σw : L2.St) (te : TE) (k : VK) (σ2 : L2.St) (H2 : Hp) : Prop := wipe σ2 vs = σw ∧ te σ2 H2 k
instance i_lck {vs : List Nat} {σw : L2.St} [a : WipeS σ vs σw] : St1 (LcK vs σw te Q σ H) (te σ H Q) := ⟨fun h => ⟨a.h, h⟩⟩
theorem lcR {lo : Int} {n : Nat} {g : TG} {vs : List Nat} {σw : L2.St} [a : WipeS σ vs σw] (Pv : Nat → Addr → List V → Hp → Prop) (h0 : ∀ D H1, H D = none → Ext H H1 → H1 D = some (.lst []) → Pv 0 D [] H1)
    (hs : ∀ i D acc H1, H D = none → i < n → H1 D = some (.lst acc) → acc.length = i → Pv i D acc H1 → g (.int (lo + i)) σw H1 fun σ2 H2 => LcK vs σw te (fun y H4 => rAcc D (LcAt D (i + 1) (Pv (i + 1) D)) y H4) σ2 H2)
    (hd : ∀ D acc H1, H D = none → H1 D = some (.lst acc) → acc.length = n → Pv n D acc H1 → Q (.ref D) H1) : rLc (Itr lo n) g tYes te vs σ H Q :=
  lc_rng Pv h0 (fun i D acc H1 hD hi h1 hl hp => by rw [a.h]; exact hs i D acc H1 hD hi h1 hl hp) hd
theorem lcL {ad : Addr} {xs : List V} {g : TG} {vs : List Nat} {σw : L2.St} [a : WipeS σ vs σw] (Pv : Nat → Addr → List V → Hp → Prop) (h0 : ∀ D H1, H D = none → Ext H H1 → H1 D = some (.lst []) → Pv 0 D [] H1)
    (hl : ∀ i D acc H1, H D = none → i ≤ xs.length → Pv i D acc H1 → SqL K H1 ad xs)
    (hs : ∀ i x D acc H1, H D = none → xs[i]? = some x → H1 D = some (.lst acc) → acc.length = i → Pv i D acc H1 → g x σw H1 fun σ2 H2 => LcK vs σw te (fun y H4 => rAcc D (LcAt D (i + 1) (Pv (i + 1) D)) y H4) σ2 H2)
    (hd : ∀ D acc H1, H D = none → H1 D = some (.lst acc) → acc.length = xs.length → Pv xs.length D acc H1 → Q (.ref D) H1) : rLc (Itl K ad) g tYes te vs σ H Q :=
  lc_lst (xs := xs) Pv h0 hl (fun i x D acc H1 hD hi h1 hl' hp => by rw [a.h]; exact hs i x D acc H1 hD hi h1 hl' hp) hd
end
end GG

/-! GV: == of an own instance and a value of another kind, both ways. -/
namespace GG
open PySem L2 PyProof.Rows
section
variable {X : Cx} {CX : CXT} {k : Nat} {C f : Addr} {fd : FuncData} {ps : List Str} {sp : Sp} {E : L2.St → XK}
/-- x == y by the text's own ==, y of a built-in type T -/
def rOwnEqT (C : Addr) (sp : Sp) (E : L2.St → XK) : R2S := fun σ x y H Q => ∃ a dx fs, x = .ref a ∧ H a = some (.ins C dx fs) ∧ ((∃ i, y = .int i) ∨ ∃ b ys, y = .ref b ∧ H b = some (.tup ys)) ∧ sp [.ref a, y] H Q (E σ)
theorem op_ownEqT (S : Sm X.prog X.w X.K X.mg X.base C "__eq__" k ps sp) (hr : Room k X.A) (hx : Ps X E) (h1 : PySem.W.notFirst X.K C (.type "int") = true) (h2 : PySem.W.notFirst X.K C (.type "tuple") = true) : OpS X (compareOp .Eq) (rOwnEqT C sp E) := by
  intro pins s σ H x y v u Q I rx ry hq
  obtain ⟨f, fd, F, hs, hf, hb⟩ := S.ex
  obtain ⟨a, dx, fs, rfl, ha, hy, q⟩ := hq
  cases rx
  obtain ⟨_, _, J⟩ := inst_of I ha
  obtain ⟨m, hF⟩ := I.fr
  show wpAny (model X.prog X.w) X.A (richCompare .Eq _ _) (EP X pins σ Q) X.xe s
  rcases hy with ⟨i, rfl⟩ | ⟨b, ys, rfl, hb'⟩
  · obtain ⟨t, rfl⟩ := (show ∃ t, u = Value.int i t from ry)
    refine PySem.W.cmp_K (op := .Eq) (tb := .type "int") hr.units0 hF I.ok.mod.kin J (PySem.W.Looks.of_pure rfl) h1 hs hf ?_
    exact thn (run_at0 (vs := [.ref a, .int i]) F hr rfl hb (hx σ) I (.cons rfl (.cons ⟨t, rfl⟩ .nil)) q) fun _ _ z => cmpBack_ep z
  · cases (show u = Value.ref b from ry)
    obtain ⟨_, its, rv, o, g1, g2, n, g3⟩ := (show ObjOk X.prog X.w H s.heap b (.tup ys) from I.hok b _ hb')
    have ty : PySem.W.Looks (model X.prog X.w) s.heap (typeOf (.ref b)) (.type "tuple") := by
      intro A' Q' E' s' k' q'
      exact wpAny_typeOf (show s'.TypeIs (.ref b) "tuple" from ⟨o, k' _ _ g1, g2⟩) q'
    refine PySem.W.cmp_K (op := .Eq) (tb := .type "tuple") hr.units0 hF I.ok.mod.kin J ty h2 hs hf ?_
    exact thn (run_at0 (vs := [.ref a, .ref b]) F hr rfl hb (hx σ) I (.cons rfl (.cons rfl .nil)) q) fun _ _ z => cmpBack_ep z
/-- int.__eq__ declines an own instance -/
theorem int_eq_own {A : Around} {s : Shared} {i : Int} {t : Tok} {a : Addr} {Q : Value → Shared → Prop} {E : Value → Shared → Prop} {prog : Program} {w : World} {dx : Addr} (ho : s.heap.get? a = some (PySem.W.instObj C dx)) (h : Q .notImplemented s) :
    wpAny (model prog w) A (call (.builtin "int.__eq__") [.int i t, .ref a]) Q E s := by
  refine wpAny_call (codeAny_call_builtin F.slot_int_eq.plain F.entry_int_eq (F.slot_int_eq.check _ _ _ _ _ _ _ _ (typeIs_int s i t) (F.args_int_eq_2 _ _) ?_))
  obtain ⟨hp, g, d, tk, os⟩ := s
  have ho' : hp.get? a = some (PySem.W.instObj C dx) := ho
  unfold PySem.W.instObj at ho'
  wp_walk using wpAny_load ho'
  exact h
/-- y == x, y an int: int declines, the text's own == is asked -/
def rEqOwnR (C : Addr) (sp : Sp) (E : L2.St → XK) : R2S := fun σ y x H Q => ∃ a dx fs i, y = .int i ∧ x = .ref a ∧ H a = some (.ins C dx fs) ∧ sp [.ref a, .int i] H Q (E σ)
theorem op_eqOwnR (S : Sm X.prog X.w X.K X.mg X.base C "__eq__" k ps sp) (hr : Room k X.A) (hx : Ps X E) (hsub : PySem.W.subIn X.K (.ref C) (.type "int") = some false) : OpS X (compareOp .Eq) (rEqOwnR C sp E) := by
  intro pins s σ H y x v u Q I ry rx hq
  obtain ⟨f, fd, F, hs, hf, hb⟩ := S.ex
  obtain ⟨a, dx, fs, i, rfl, rfl, ha, q⟩ := hq
  cases rx
  obtain ⟨t, rfl⟩ := (show ∃ t, v = Value.int i t from ry)
  obtain ⟨_, _, J⟩ := inst_of I ha
  have ho : s.heap.get? a = some (PySem.W.instObj C dx) := (show ObjOk X.prog X.w H s.heap a (.ins C dx fs) from I.hok a _ ha).2.2.2.1
  have XK := I.kIn
  show wpAny (model X.prog X.w) X.A (richCompare .Eq _ _) (EP X pins σ Q) X.xe s
  have one : wpAny (model X.prog X.w) X.A (tryCompare (.ref a) "__eq__" (.int i t)) (fun r s' => ∃ v, r = some v ∧ EP X pins σ Q v s') X.xe s := by
    unfold tryCompare
    refine wpAny_bind (PySem.W.ifBound_K XK J hs hf (thn (run_at0 (vs := [.ref a, .int i]) F hr rfl hb (hx σ) I (.cons rfl (.cons ⟨t, rfl⟩ .nil)) q) fun v s' hv => ?_))
    have hv' := cmpBack_ep hv
    cases v <;> first | exact hv'.elim | exact wpAny_pure ⟨_, rfl, hv⟩
  unfold richCompare
  have on : oneThing? .Eq (.int i t) (.ref a) = none := by rfl
  simp only [on]
  refine wpAny_holding (wpAny_bind (wpAny_cRoomFor hr.units0 ?_))
  refine wpAny_bind (wpAny_typeOf (typeIs_int s i t) (wpAny_bind (J.type.here ?_)))
  have hne : (Value.type "int" != Value.ref C) = true := rfl
  rw [if_pos hne]
  refine wpAny_bind ((PySem.W.looks_subIn XK hsub).here ?_)
  simp only [Bool.false_eq_true, if_false, Bool.not_false, if_true]
  refine wpAny_bind (m := tryCompare (.int i t) _ (.ref a)) (wpAny_tryCompare_declines (typeIs_int s i t) PySem.F.slot_int_eq (int_eq_own ho ⟨rfl, ?_⟩))
  refine wpAny_bind (m := tryCompare (.ref a) _ (.int i t)) (thn one fun r s' hr' => ?_)
  obtain ⟨v, rfl, hq⟩ := hr'
  exact wpAny_pure hq
end
/-! ### properties -/
structure Pr (P : Program) (w : World) (K : PySem.W.Frag) (mg : Str → Option Value) (base : Heap) (C : Addr) (m : Str) (k : Nat) (ps : List Str) (sp : Sp) : Prop where
  ex : ∃ p g fd, FnOk P w K mg base (L2N.CX P w) k g fd ps sp ∧ PropOf K C m p g ∧ L2.Binds K fd ps []
  cls : Cls K C
theorem passN {X : Cx} : Passes (L2N.CX X.prog X.w) X E0 := fun _ _ _ _ _ _ _ h => by
  obtain ⟨_, _, _, _, _, _, _, _, _, _, _, _, z⟩ := h
  exact z.elim
theorem pe_pr {X : Cx} {C : Addr} {m : Str} {k : Nat} {ps : List Str} {sp : Sp} {e : Expr} {ta : TE} {pos : Pos} (F : Pr X.prog X.w X.K X.mg X.base C m k ps sp) (hr : Room (k + 1) X.A) (he : PE X e ta) (hab : attributeBase e m X.env (eval e X.env) = eval e X.env) :
    PE X (.Attribute e m pos) (tProp C sp [] E0 ta) := by
  obtain ⟨⟨p, g, fd, F, hp, hb⟩, c⟩ := F
  exact pe_prop he c hp F hr hb .nil (passN (X := X.nox)) hab
section
variable {K : PySem.W.Frag} {mg : Str → Option Value} {nx bk ct : L2.St → Hp → Prop} {rt : VK} {σ σ' σ1 σ2 : L2.St} {H : Hp} {t u : TS} {te ta tb tc : TE} {tt tu : TT} {as tr : TA} {Q : VK} {QB : Bool → Hp → Prop} {v x y : V} {E : L2.St → XK} {sp : Sp} {i j : Int} {n m : Nat} {b : Bool} {A B : Prop}
def rProp (C : Addr) (sp : Sp) (x : V) (H : Hp) (Q : VK) : Prop := ∃ a dx fs, x = .ref a ∧ H a = some (.ins C dx fs) ∧ sp [.ref a] H Q E0
instance i_prop {C : Addr} : St1 (tProp C sp [] E0 ta σ H Q) (ta σ H fun x H1 => rProp C sp x H1 Q) := ⟨fun h => h⟩
theorem v_prop {C a dx : Addr} {fs : List (Str × V)} (ha : H a = some (.ins C dx fs)) (q : sp [.ref a] H Q E0) : rProp C sp (.ref a) H Q := ⟨a, dx, fs, rfl, ha, q⟩
/-! ### own == with another kind -/
theorem v_ownEqI {C a dx : Addr} {fs : List (Str × V)} (ha : H a = some (.ins C dx fs)) (q : sp [.ref a, .int i] H Q (E σ)) : rOwnEqT C sp E σ (.ref a) (.int i) H Q := ⟨a, dx, fs, rfl, ha, .inl ⟨i, rfl⟩, q⟩
theorem v_ownEqU {C a dx b : Addr} {fs : List (Str × V)} {ys : List V} (ha : H a = some (.ins C dx fs)) (hb : H b = some (.tup ys)) (q : sp [.ref a, .ref b] H Q (E σ)) : rOwnEqT C sp E σ (.ref a) (.ref b) H Q := ⟨a, dx, fs, rfl, ha, .inr ⟨b, ys, rfl, hb⟩, q⟩
theorem v_eqOwnR {C a dx : Addr} {fs : List (Str × V)} (ha : H a = some (.ins C dx fs)) (q : sp [.ref a, .int i] H Q (E σ)) : rEqOwnR C sp E σ (.int i) (.ref a) H Q := ⟨a, dx, fs, i, rfl, rfl, ha, q⟩
/-! ### x, y = e, f -/
def rPar (n m : Nat) (nx : L2.St → Hp → Prop) (σ : L2.St) (vs : List V) (H : Hp) : Prop := ∃ v w, vs = [v, w] ∧ nx ((σ.set n (some v)).set m (some w)) H
instance (priority := high) i_parR : St1 (Run (tPar n m as) nx rt bk ct σ H) (as σ H fun vs H1 => rPar n m nx σ vs H1) := ⟨fun h => h⟩
instance i_parV [a : SetS σ n (some v) σ1] [b : SetS σ1 m (some x) σ2] : St1 (rPar n m nx σ [v, x] H) (nx σ2 H) := ⟨fun h => ⟨v, x, rfl, by rw [a.h, b.h]; exact h⟩⟩
/-! ### while -/
def rWh (m : Nat) (Pv : Nat → L2.St → Hp → Prop) (t : TS) (nx : L2.St → Hp → Prop) (rt : VK) (σ : L2.St) (b : Bool) (H : Hp) : Prop :=
  if b = true then ∃ N : L2.St → Hp → Prop, (∀ σ' H', N σ' H' → ∃ m', m' < m ∧ Pv m' σ' H') ∧ t ⟨N, rt, nx, N⟩ σ H else nx σ H
theorem run_while (Pv : Nat → L2.St → Hp → Prop) (h0 : ∃ m, Pv m σ H) (hs : ∀ m σ H, Pv m σ H → tt σ H fun b H1 => rWh m Pv t nx rt σ b H1) : Run (tWhile tt t) nx rt bk ct σ H := ⟨Pv, h0, hs⟩
instance i_wh {Pv : Nat → L2.St → Hp → Prop} : St1 (rWh m Pv t nx rt σ b H) (Br b (Run t (fun σ' H' => ∃ m', m' < m ∧ Pv m' σ' H') rt nx (fun σ' H' => ∃ m', m' < m ∧ Pv m' σ' H') σ H) (nx σ H)) := ⟨fun h => by
  cases b with
  | true => exact iteT ⟨_, fun _ _ z => z, h⟩
  | false => exact iteF h⟩
end
/-! ### a def with one default -/
theorem funD_mk {K : PySem.W.Frag} {x qual : Str} {st : Stmt} {f T : Addr} {oc oc' : Value} {od an od' : Option Addr} {osl osl' : Array (Option Value)} {kV doc pm cdv ct u : Value} {n : Nat} {v : V} (l : K.lookup f = some ⟨oc, od, .func (PySem.W.fnOf x qual (defArgs st) (defBody st) (defScope st) (.ref T) kV doc pm an cdv ct), osl⟩)
    (c : PySem.W.codeIn K cdv qual = true) (k : PySem.W.keepIn K (.ref f) = true) (lT : K.lookup T = some ⟨oc', od', .seq #[u] n, osl'⟩) (r : RelV v u) :
    FunD K x qual (defArgs st) (defBody st) (defScope st) [v] [] f (PySem.W.fnOf x qual (defArgs st) (defBody st) (defScope st) (.ref T) kV doc pm an cdv ct) :=
  ⟨⟨oc, od, _, kV, doc, pm, an, cdv, ct, osl, rfl, l, c, .inr ⟨by simp, T, _, [u], n, rfl, lT, rfl, .cons r .nil⟩, .inl rfl⟩, k⟩
end GG

/-! GW: i op x, i an int, x an own instance: int declines, the text's own reflected operator is asked. -/
namespace GG
open PySem L2 PyProof.Rows
section
variable {X : Cx} {CX : CXT} {k : Nat} {C f : Addr} {fd : FuncData} {ps : List Str} {sp : Sp} {E : L2.St → XK}
/-- a built-in of int declines an own instance -/
def Declines (C : Addr) (id : String) : Prop := ∀ (prog : Program) (w : World) (A : Around) (s : Shared) (i : Int) (t : Tok) (a : Addr) (Q : Value → Shared → Prop) (E : Value → Shared → Prop) (dx : Addr),
  s.heap.get? a = some (PySem.W.instObj C dx) → Q .notImplemented s → wpAny (model prog w) A (call (.builtin id) [.int i t, .ref a]) Q E s
theorem int_add_own : Declines C "int.__add__" := by
  intro prog w A s i t a Q E dx ho h
  refine wpAny_call (codeAny_call_builtin F.slot_int_add.plain F.entry_int_add (F.slot_int_add.check _ _ _ _ _ _ _ _ (typeIs_int s i t) (F.args_int_add_2 _ _) ?_))
  obtain ⟨hp, g, d, tk, os⟩ := s
  have ho' : hp.get? a = some (PySem.W.instObj C dx) := ho
  unfold PySem.W.instObj at ho'
  wp_walk using wpAny_load ho'
  exact h
theorem int_sub_own : Declines C "int.__sub__" := by
  intro prog w A s i t a Q E dx ho h
  refine wpAny_call (codeAny_call_builtin F.slot_int_sub.plain F.entry_int_sub (F.slot_int_sub.check _ _ _ _ _ _ _ _ (typeIs_int s i t) (F.args_int_sub_2 _ _) ?_))
  obtain ⟨hp, g, d, tk, os⟩ := s
  have ho' : hp.get? a = some (PySem.W.instObj C dx) := ho
  unfold PySem.W.instObj at ho'
  wp_walk using wpAny_load ho'
  exact h
theorem int_mul_own : Declines C "int.__mul__" := by
  intro prog w A s i t a Q E dx ho h
  refine wpAny_call (codeAny_call_builtin F.slot_int_mul.plain F.entry_int_mul (F.slot_int_mul.check _ _ _ _ _ _ _ _ (typeIs_int s i t) (F.args_int_mul_2 _ _) ?_))
  obtain ⟨hp, g, d, tk, os⟩ := s
  have ho' : hp.get? a = some (PySem.W.instObj C dx) := ho
  unfold PySem.W.instObj at ho'
  wp_walk using wpAny_load ho'
  exact h
def IntL (C : Addr) (nm : String) : Prop := ∃ id, Slot "int" (PySem.dunder nm) id ∧ fillsNumberSlot (.type "int") nm = pure true ∧ Declines C id
theorem il_add : IntL C "add" := ⟨_, F.slot_int_add, F.fills_int_add, int_add_own⟩
theorem il_sub : IntL C "sub" := ⟨_, F.slot_int_sub, F.fills_int_sub, int_sub_own⟩
theorem il_mul : IntL C "mul" := ⟨_, F.slot_int_mul, F.fills_int_mul, int_mul_own⟩
theorem Sm.lk {P : Program} {w : World} {K : PySem.W.Frag} {mg : Str → Option Value} {base : Heap} {name : Str} (S : Sm P w K mg base C name k ps sp) : ∃ f, PySem.W.findIn K (.ref C) name = some (some (.ref f)) := by
  obtain ⟨f, fd, F, hs, _⟩ := S.ex
  exact ⟨f, hs⟩
def rIntOwn (C : Addr) (sp : Sp) (E : L2.St → XK) : R2S := fun σ y x H Q => ∃ a dx fs i, y = .int i ∧ x = .ref a ∧ H a = some (.ins C dx fs) ∧ sp [.ref a, .int i] H Q (E σ)
theorem op_intOwn {op : Operator} (S : Sm X.prog X.w X.K X.mg X.base C (dunderR op.info.2) k ps sp) (hr : Room k X.A) (hx : Ps X E) (hc : PySem.W.selfFirst X.K C = true) (hl : ∃ fn, PySem.W.findIn X.K (.ref C) (PySem.dunder op.info.2) = some (some (.ref fn)))
    (hil : IntL C op.info.2) (hsub : PySem.W.subIn X.K (.ref C) (.type "int") = some false) : OpS X (binaryOp op) (rIntOwn C sp E) := by
  intro pins s σ H y x v u Q I ry rx hq
  obtain ⟨f, fd, F, hs, hf, hb⟩ := S.ex
  obtain ⟨fn, hl⟩ := hl
  obtain ⟨id, hsl, hfl, hd⟩ := hil
  obtain ⟨a, dx, fs, i, rfl, rfl, ha, q⟩ := hq
  cases rx
  obtain ⟨t, rfl⟩ := (show ∃ t, v = Value.int i t from ry)
  obtain ⟨_, _, J⟩ := inst_of I ha
  have ho : s.heap.get? a = some (PySem.W.instObj C dx) := (show ObjOk X.prog X.w H s.heap a (.ins C dx fs) from I.hok a _ ha).2.2.2.1
  have XK := I.kIn
  have J' : PySem.W.Looks (model X.prog X.w) s.heap (typeOf (.ref a)) (.ref C) := J.type
  have one := PySem.W.ksp_try (b := .int i t) XK J hs hf (thn (run_at0 (vs := [.ref a, .int i]) F hr rfl hb (hx σ) I (.cons rfl (.cons ⟨t, rfl⟩ .nil)) q) fun _ _ z => cmpBack_ep z)
  obtain ⟨cd, rest, hcd, hm⟩ := PySem.W.ksp_first hc
  rcases hi : op.info with ⟨sym, nm⟩
  rw [hi] at hl hsl hfl one
  dsimp only at hl hsl hfl one
  have two : ∀ Q' : Option Value → Shared → Prop, Q' none s → wpAny (model X.prog X.w) X.A (tryMethod (.int i t) (PySem.dunder nm) (.ref a)) Q' X.xe s := fun Q' q' => wpAny_tryMethod_declines (typeIs_int s i t) hsl (hd _ _ _ s i t a _ _ dx ho ⟨rfl, q'⟩)
  clear q I ha hx ho J
  obtain ⟨hh, g, d, tt, os⟩ := s
  have L1 : PySem.W.Looks (model X.prog X.w) hh (typeOf (.int i t)) (.type "int") := PySem.W.Looks.of_pure rfl
  have L2 : PySem.W.Looks (model X.prog X.w) hh (typeOf (.ref a)) (.ref C) := J'
  have L3 : PySem.W.Looks (model X.prog X.w) hh (fillsNumberSlot (.ref C) nm) true := PySem.W.fills_K XK hcd hm hl
  have L4 : PySem.W.Looks (model X.prog X.w) hh (fillsNumberSlot (.type "int") nm) true := PySem.W.Looks.of_pure hfl
  have L5 : PySem.W.Looks (model X.prog X.w) hh (isSubtype (.ref C) (.type "int")) false := PySem.W.looks_subIn XK hsub
  have L6 : PySem.W.Looks (model X.prog X.w) hh (numberSlotInPython (.type "int") nm) false := PySem.W.Looks.of_pure rfl
  have hne : (Value.type "int" == Value.ref C) = false := rfl
  simp only [binaryOp, hi]
  refine wpAny_holding (wpAny_bind ?_)
  unfold binaryOp1
  refine wpAny_bind (L1.at (wpAny_bind (L2.at (wpAny_bind (L4.at ?_)))))
  simp only [hne, Bool.false_eq_true, if_false]
  ksp_lk
  refine two _ ?_
  ksp_lk
  refine wpAny_mono one (fun r s' hr' => ?_) fun _ _ e => e
  obtain ⟨v, rfl, hq⟩ := hr'
  ksp_lk
  exact hq
/-- x op y, each an instance of the class at C or an int, not both ints -/
def rEither (C : Addr) (sp spR : Sp) (E : L2.St → XK) : R2S := fun σ x y H Q => rOwn C sp E σ x y H Q ∨ (rOwnI C sp E σ x y H Q ∨ rIntOwn C spR E σ x y H Q)
theorem op_either {op : Operator} {k2 : Nat} {ps2 : List Str} {spR : Sp} (S : Sm X.prog X.w X.K X.mg X.base C (PySem.dunder op.info.2) k ps sp) (hr : Room k X.A) (R : Sm X.prog X.w X.K X.mg X.base C (dunderR op.info.2) k2 ps2 spR) (hr2 : Room k2 X.A) (hx : Ps X E)
    (hc : PySem.W.selfFirst X.K C = true) (hi : RightT X.K C "int" op.info.2) (hil : IntL C op.info.2) (hsub : PySem.W.subIn X.K (.ref C) (.type "int") = some false) : OpS X (binaryOp op) (rEither C sp spR E) :=
  (op_own S hr hx hc).or ((op_ownI S hr hx hc hi).or (op_intOwn R hr2 hx hc S.lk hil hsub))
/-- x op y, x an instance of the class at C, y one or an int -/
def rEitherR (C : Addr) (sp : Sp) (E : L2.St → XK) : R2S := fun σ x y H Q => rOwn C sp E σ x y H Q ∨ rOwnI C sp E σ x y H Q
theorem op_eitherR {op : Operator} (S : Sm X.prog X.w X.K X.mg X.base C (PySem.dunder op.info.2) k ps sp) (hr : Room k X.A) (hx : Ps X E)
    (hc : PySem.W.selfFirst X.K C = true) (hi : RightT X.K C "int" op.info.2) : OpS X (binaryOp op) (rEitherR C sp E) := (op_own S hr hx hc).or (op_ownI S hr hx hc hi)
end
section
variable {nx bk ct : L2.St → Hp → Prop} {rt : VK} {σ : L2.St} {H : Hp} {te : TE} {Q : VK} {v x y : V} {E : L2.St → XK} {sp spR : Sp} {i j : Int} {n m : Nat} {C a b dx dy : Addr} {fs gs : List (Str × V)}
theorem v_e1 (ha : H a = some (.ins C dx fs)) (hb : H b = some (.ins C dy gs)) (q : sp [.ref a, .ref b] H Q (E σ)) : rEither C sp spR E σ (.ref a) (.ref b) H Q := .inl ⟨a, dx, fs, b, dy, gs, rfl, ha, rfl, hb, q⟩
theorem v_e2 (ha : H a = some (.ins C dx fs)) (q : sp [.ref a, .int i] H Q (E σ)) : rEither C sp spR E σ (.ref a) (.int i) H Q := .inr (.inl ⟨a, dx, fs, i, rfl, ha, rfl, q⟩)
theorem v_e3 (ha : H a = some (.ins C dx fs)) (q : spR [.ref a, .int i] H Q (E σ)) : rEither C sp spR E σ (.int i) (.ref a) H Q := .inr (.inr ⟨a, dx, fs, i, rfl, rfl, ha, q⟩)
theorem v_er1 (ha : H a = some (.ins C dx fs)) (hb : H b = some (.ins C dy gs)) (q : sp [.ref a, .ref b] H Q (E σ)) : rEitherR C sp E σ (.ref a) (.ref b) H Q := .inl ⟨a, dx, fs, b, dy, gs, rfl, ha, rfl, hb, q⟩
theorem v_er2 (ha : H a = some (.ins C dx fs)) (q : sp [.ref a, .int i] H Q (E σ)) : rEitherR C sp E σ (.ref a) (.int i) H Q := .inr ⟨a, dx, fs, i, rfl, ha, rfl, q⟩
theorem v_iR (ha : H a = some (.ins C dx fs)) (q : sp [.ref a, .int i] H Q (E σ)) : rIntOwn C sp E σ (.int i) (.ref a) H Q := ⟨a, dx, fs, i, rfl, rfl, ha, q⟩
instance i_asg2 : St1 (Run (tAsg2 te (gName n) (gName m)) nx rt bk ct σ H) (te σ H fun x H1 => Kont (fun σ' H' => Kont nx σ' m (some x) H') σ n (some x) H1) := ⟨fun h => h⟩
end
end GG

/-! GH: defs called within an except suite. -/
namespace GG
open PySem L2 PyProof.Rows
/-- a def of the top, as it is called within an except suite -/
structure FnS (P : Program) (w : World) (K : PySem.W.Frag) (mg : Str → Option Value) (base : Heap) (x : Str) (k : Nat) (ps : List Str) (sp : Sp) : Prop where
  ex : ∃ f fd, L2H.FnH P w K mg base (L2N.CX P w) k f fd ps sp ∧ mg x = some (.ref f) ∧ PySem.W.keepIn K (.ref f) = true ∧ L2.Binds K fd ps []
theorem _root_.L2H.RoomH.units {k : Nat} {A : Around} (r : L2H.RoomH k A) : A.units + 64 < cLine := by have := r.un; omega
theorem _root_.L2H.RoomH.units0 {k : Nat} {A : Around} (r : L2H.RoomH k A) : A.units < cLine := by have := r.un; omega
section
variable {X : Cx} {k : Nat} {ps : List Str} {sp : Sp} {E : L2.St → XK} {x : Str} {p pos : Pos} {e : Expr} {es : List Expr} {t : TA}
theorem pe_fnH (F : FnS X.prog X.w X.K X.mg X.base x k ps sp) (hr : L2H.RoomH k X.A) (hc : L2H.HotC X) (hx : Ps X E) (ha : PA X (e :: es) t) (hg : Gl X x := by rfl) (hdb : (x == ("__debug__" : Str)) = false := by decide)
    (he : starEach (e :: es) X.env = (false, eval e X.env) :: starEach es X.env := by rfl) (hpl : (backTo pos (starEach es X.env)).any (·.1) = false := by rfl) :
    PE X (.Call (.Name x p) (e :: es) [] pos) (tCallSD sp [] E t) := by
  obtain ⟨f, fd, F, hm, hk, hb⟩ := F.ex
  refine ⟨fun pins s σ H Q I h => ?_⟩
  refine wpAny_Call_Name_kw (ld_glob I hg hm ?_ hdb)
  refine PySem.W.callWith_K (h₀ := X.base) I.ok.mod.kin hk (thn (ha.run pos pins s σ H _ I h) fun us s1 ⟨vs, H1, I1, r, q⟩ => ⟨I1.kIn, ?_⟩) he hpl
  have q : sp (vs ++ []) H1 Q (E σ) := q
  rw [List.append_nil] at q
  exact L2H.run_fnH (E := E) F hr hc hb (hx σ) I1 r q
/-- the suite bears the exception that is handled -/
theorem hot_suite {a : Addr} {oe : Obj} {cls : Value} {d : Option Addr} {pn : List (Addr × Obj)} (hz : L2N.Zn cls d oe) (hf : ∃ vs, oe.data = .fields vs) : L2H.HotC (X.suite a ((a, oe) :: pn)) := by
  obtain ⟨vs, hd⟩ := hf
  exact ⟨(a, oe), ⟨rfl, vs, hd, hz.2.2 vs hd⟩, List.Mem.head _⟩
theorem room_suite {a : Addr} {j : Nat} {pn : List (Addr × Obj)} (hr : Room k X.A) (h : j ≤ k) : L2H.RoomH j (X.suite a pn).A := L2H.RoomH.mono (k := k) ⟨hr.dp, hr.un⟩ h
theorem hot_def {CX : CXT} {P : Program} {w : World} {K : PySem.W.Frag} {mg : Str → Option Value} {base : Heap} {N : List Str} {qual : Str} {scope : Scope} {f : Addr} {cd : Value} {A : Around} {outer : List Env} {s : Shared} {H : Hp} {E : XK} {p : Addr × Obj} (h : L2H.Hot1 A p) :
    L2H.HotC (L2H.cxH CX P w K mg base N qual scope f cd A outer s H E p) := ⟨p, ⟨h.1, h.2⟩, List.Mem.head _⟩
end
/-! ### a cut behind a statement -/
theorem run_cut {t : TS} {nx bk ct : L2.St → Hp → Prop} {rt : VK} {σ : L2.St} {H : Hp} (P : L2.St → Hp → Prop) (h1 : ∀ nx' : L2.St → Hp → Prop, (∀ σ' H', P σ' H' → nx' σ' H') → Run t nx' rt bk ct σ H) (h2 : ∀ σ' H', P σ' H' → nx σ' H') : Run t nx rt bk ct σ H := h1 nx h2
theorem is_if {tt : TT} {t u : TS} {nx bk ct : L2.St → Hp → Prop} {rt : VK} {σ : L2.St} {H : Hp} (h : Run (tIfS tt t u) nx rt bk ct σ H) : Run (tIfS tt t u) nx rt bk ct σ H := h
/-! ### methods -/
section
variable {σ : L2.St} {H : Hp} {ta : TE} {as : TA} {Q : VK} {E : L2.St → XK} {sp : Sp} {C a dx : Addr} {m : Str} {dvs : List V} {fs : List (Str × V)} {v : V}
def SpM (sp : Sp) (dvs : List V) (a : Addr) (vs : List V) (H : Hp) (Q : VK) (E : XK) : Prop := sp (.ref a :: (vs ++ dvs)) H Q E
def rMt (C : Addr) (m : Str) (sp : Sp) (dvs : List V) (E : L2.St → XK) (as : TA) (σ : L2.St) (x : V) (H : Hp) (Q : VK) : Prop := ∃ a dx fs, x = .ref a ∧ H a = some (.ins C dx fs) ∧ fs.lookup m = none ∧ as σ H fun vs H2 => SpM sp dvs a vs H2 Q (E σ)
instance i_mt : St1 (tMtS C m sp dvs E ta as σ H Q) (ta σ H fun x H1 => rMt C m sp dvs E as σ x H1 Q) := ⟨fun h => h⟩
theorem v_mt (ha : H a = some (.ins C dx fs)) (hl : fs.lookup m = none) (q : as σ H fun vs H2 => SpM sp dvs a vs H2 Q (E σ)) : rMt C m sp dvs E as σ (.ref a) H Q := ⟨a, dx, fs, rfl, ha, hl, q⟩
instance i_spM {vs ws : List V} {E : XK} [x : AppV vs dvs ws] : St1 (SpM sp dvs a vs H Q E) (sp (.ref a :: ws) H Q E) := ⟨fun h => by unfold SpM; rw [x.h]; exact h⟩
end
end GG

namespace GM
theorem fmod_eq (x y : Int) : x.fmod y = x - y * x.fdiv y := by
  have := Int.mul_fdiv_add_fmod x y
  omega
theorem gcd_fmod (x y : Int) : Int.gcd y (x.fmod y) = Int.gcd x y := by
  rw [fmod_eq, Int.gcd_comm x y]
  exact Int.gcd_sub_mul_left_right y x (x.fdiv y)
theorem fmod_neg (x y : Int) : x.fmod (-y) = -((-x).fmod y) := by
  have h := Int.neg_fmod_neg (a := -x) (b := y)
  rw [Int.neg_neg] at h
  exact h
theorem fmod_lt {x y : Int} (h : y ≠ 0) : (x.fmod y).natAbs < y.natAbs := by
  rcases Int.lt_or_lt_of_ne h with h | h
  · have e := fmod_neg x (-y)
    rw [Int.neg_neg] at e
    have h1 := Int.fmod_nonneg_of_pos (-x) (b := -y) (by omega)
    have h2 := Int.fmod_lt_of_pos (-x) (b := -y) (by omega)
    omega
  · have h1 := Int.fmod_nonneg_of_pos x h
    have h2 := Int.fmod_lt_of_pos x h
    omega
/-- in lowest terms -/
theorem share_math {t b c : Int} (hb : b ≠ 0) (hc : (b < 0 ∧ c = -(Int.gcd t b : Int)) ∨ (0 < b ∧ c = (Int.gcd t b : Int))) :
    c ≠ 0 ∧ c.natAbs ≤ b.natAbs ∧ 0 < b.fdiv c ∧ Int.gcd (t.fdiv c) (b.fdiv c) = 1 ∧ t.fdiv c * b = t * b.fdiv c ∧ (t.fdiv c).natAbs ≤ t.natAbs ∧ (b.fdiv c).natAbs ≤ b.natAbs := by
  have hg : 0 < Int.gcd t b := Int.gcd_pos_of_ne_zero_right t hb
  have hct : c ∣ t := by
    rcases hc with ⟨_, rfl⟩ | ⟨_, rfl⟩
    · exact Int.neg_dvd.mpr (Int.gcd_dvd_left t b)
    · exact Int.gcd_dvd_left t b
  have hcb : c ∣ b := by
    rcases hc with ⟨_, rfl⟩ | ⟨_, rfl⟩
    · exact Int.neg_dvd.mpr (Int.gcd_dvd_right t b)
    · exact Int.gcd_dvd_right t b
  have hca : c.natAbs = Int.gcd t b := by
    rcases hc with ⟨_, rfl⟩ | ⟨_, rfl⟩ <;> simp
  have hc0 : c ≠ 0 := by
    intro z
    rw [z] at hca
    simp at hca
    omega
  obtain ⟨T, rfl⟩ := hct
  obtain ⟨B, rfl⟩ := hcb
  have e1 : (c * T).fdiv c = T := Int.mul_fdiv_cancel_left T hc0
  have e2 : (c * B).fdiv c = B := Int.mul_fdiv_cancel_left B hc0
  rw [e1, e2]
  have hB0 : B ≠ 0 := fun z => hb (by rw [z, Int.mul_zero])
  have h1 : 1 ≤ c.natAbs := by omega
  refine ⟨hc0, ?_, ?_, ?_, ?_, ?_, ?_⟩
  · rw [Int.natAbs_mul]
    exact Nat.le_mul_of_pos_right _ (by omega)
  · rcases hc with ⟨h, e⟩ | ⟨h, e⟩
    · have hcn : c < 0 := by omega
      exact Int.pos_of_mul_neg_right h (by omega) 
    · have hcp : 0 < c := by omega
      exact Int.pos_of_mul_pos_left (by rw [Int.mul_comm]; exact h) hcp
  · rw [Int.gcd_mul_left] at hca
    have : c.natAbs * Int.gcd T B = c.natAbs * 1 := by omega
    exact Nat.eq_of_mul_eq_mul_left h1 this
  · rw [Int.mul_comm c T, Int.mul_assoc, Int.mul_left_comm, ← Int.mul_assoc, Int.mul_comm c T]
  · rw [Int.natAbs_mul]
    exact Nat.le_mul_of_pos_left _ h1
  · rw [Int.natAbs_mul]
    exact Nat.le_mul_of_pos_left _ h1
theorem dvd_cop {a b c : Int} (h : a ∣ b * c) (g : Int.gcd a b = 1) : a ∣ c := by
  have := Int.dvd_gcd_mul_iff_dvd_mul.mpr h
  rw [g] at this
  simpa using this
/-- two fractions in lowest terms are equal only if they are the same -/
theorem share_eq {T B T' B' : Int} (h1 : Int.gcd T B = 1) (h2 : Int.gcd T' B' = 1) (hB : 0 < B) (hB' : 0 < B') (h : T * B' = T' * B) : T = T' ∧ B = B' := by
  have d1 : B ∣ B' := by
    have : B ∣ T * B' := ⟨T', by rw [h, Int.mul_comm]⟩
    exact dvd_cop this (by rw [Int.gcd_comm]; exact h1)
  have d2 : B' ∣ B := by
    have : B' ∣ T' * B := ⟨T, by rw [← h, Int.mul_comm]⟩
    exact dvd_cop this (by rw [Int.gcd_comm]; exact h2)
  have e : B = B' := Int.dvd_antisymm (by omega) (by omega) d1 d2
  subst e
  exact ⟨Int.eq_of_mul_eq_mul_right (by omega) h, rfl⟩
/-- a step of Euclid's: the product falls to a half -/
theorem euclid_half {a b : Int} (hb : 0 < b) (h : b ≤ a) : b * (a % b) * 2 ≤ a * b := by
  have h1 := Int.emod_nonneg a (b := b) (by omega)
  have h2 := Int.emod_lt_of_pos a hb
  have h3 := Int.mul_ediv_add_emod a b
  have h4 : 1 ≤ a / b := by
    exact Int.le_ediv_of_mul_le hb (by omega)
  have h5 : b ≤ b * (a / b) := by
    have := Int.mul_le_mul_of_nonneg_left h4 (show 0 ≤ b by omega)
    omega
  have h6 : a % b * 2 ≤ a := by omega
  have := Int.mul_le_mul_of_nonneg_left h6 (show 0 ≤ b by omega)
  rw [Int.mul_assoc, Int.mul_comm a b]
  exact this
theorem gcd_emod (a b : Int) : Int.gcd b (a % b) = Int.gcd a b := by
  rw [Int.gcd_comm a b]
  have e : a % b = a - b * (a / b) := by
    have := Int.mul_ediv_add_emod a b
    omega
  rw [e]
  exact Int.gcd_sub_mul_left_right b a (a / b)
theorem pow_lt_of {x : Int} {n m : Nat} (hx : 1 ≤ x) (h : x * 2 ^ n < 2 ^ m) : n < m := by
  rcases Nat.lt_or_ge n m with h' | h'
  · exact h'
  · exfalso
    have h1 : (2 : Int) ^ m ≤ 2 ^ n := by
      have := Nat.pow_le_pow_right (show 0 < 2 by decide) h'
      exact_mod_cast this
    have h2 : (0 : Int) < 2 ^ n := Int.pow_pos (by decide)
    have h3 := Int.mul_le_mul_of_nonneg_right hx (Int.le_of_lt h2)
    omega
theorem abs_lt_mul {x y : Int} {m n : Int} (hx : -m < x ∧ x < m) (hy : -n < y ∧ y < n) : -(m * n) < x * y ∧ x * y < m * n := by
  have h1 : x.natAbs < m.natAbs := by omega
  have h2 : y.natAbs < n.natAbs := by omega
  have h3 : (x * y).natAbs < (m * n).natAbs := by
    rw [Int.natAbs_mul, Int.natAbs_mul]
    exact Nat.mul_lt_mul'' h1 h2
  have h4 : 0 ≤ m * n := Int.mul_nonneg (by omega) (by omega)
  omega
/-- the sign -/
theorem sign_of {T B t b : Int} (hB : 0 < B) (h : T * b = t * B) (hb : b ≠ 0) : Int.sign T = Int.sign (t * b) := by
  have e : Int.sign T * Int.sign b = Int.sign t := by
    have := congrArg Int.sign h
    rw [Int.sign_mul, Int.sign_mul, Int.sign_eq_one_of_pos hB, Int.mul_one] at this
    exact this
  rw [Int.sign_mul, ← e, Int.mul_assoc]
  have : Int.sign b * Int.sign b = 1 := by
    rcases Int.lt_or_lt_of_ne hb with h | h
    · rw [Int.sign_eq_neg_one_of_neg h]; rfl
    · rw [Int.sign_eq_one_of_pos h]; rfl
  rw [this, Int.mul_one]
theorem cross {A B1 X B3 b y : Int} (h0 : B1 ≠ 0) (h1 : A * B1 = X * B3) (h2 : X * b = y * B1) : A * b = y * B3 := by
  have h : (A * b) * B1 = (y * B3) * B1 := by
    rw [Int.mul_right_comm, h1, Int.mul_right_comm, h2, Int.mul_right_comm]
  exact Int.eq_of_mul_eq_mul_right h0 h
theorem abs_he {T B t b : Int} (hB : 0 < B) (h : T * b = t * B) : (T.natAbs : Int) * (b.natAbs : Int) = (t.natAbs : Int) * B := by
  have e := congrArg Int.natAbs h
  rw [Int.natAbs_mul, Int.natAbs_mul] at e
  have e2 : ((T.natAbs * b.natAbs : Nat) : Int) = ((t.natAbs * B.natAbs : Nat) : Int) := by rw [e]
  rw [Int.natCast_mul, Int.natCast_mul] at e2
  rw [e2, show ((B.natAbs : Nat) : Int) = B by omega]
/-- a twin with both signs changed -/
theorem twin {T B t b T' B' : Int} (h0 : b ≠ 0) (h1 : T * b = t * B) (h2 : T' * -b = -t * B') : T * B' = T' * B := by
  have h : (T * B') * b = (T' * B) * b := by
    rw [Int.mul_right_comm, h1, Int.mul_right_comm T' B b]
    have : T' * b = t * B' := by
      rw [Int.mul_neg, Int.neg_mul] at h2
      omega
    rw [this, Int.mul_right_comm]
  exact Int.eq_of_mul_eq_mul_right h0 h
theorem same_iff {T B T' B' t b t' b' : Int} (c1 : Int.gcd T B = 1) (c2 : Int.gcd T' B' = 1) (p1 : 0 < B) (p2 : 0 < B') (h0 : b ≠ 0) (h0' : b' ≠ 0) (h1 : T * b = t * B) (h2 : T' * b' = t' * B') : (t * b' = t' * b) ↔ (T = T' ∧ B = B') := by
  constructor
  · intro h
    refine share_eq c1 c2 p1 p2 ?_
    have e : (T * B') * (b * b') = (T' * B) * (b * b') := by
      have a1 : (T * B') * (b * b') = (T * b) * (B' * b') := by
        rw [Int.mul_assoc, Int.mul_assoc]
        congr 1
        rw [← Int.mul_assoc, ← Int.mul_assoc, Int.mul_comm B' b]
      have a2 : (T' * B) * (b * b') = (T' * b') * (B * b) := by
        rw [Int.mul_assoc, Int.mul_assoc]
        congr 1
        rw [Int.mul_comm b b', ← Int.mul_assoc, ← Int.mul_assoc, Int.mul_comm B b']
      rw [a1, a2, h1, h2]
      have a3 : t * B * (B' * b') = (t * b') * (B * B') := by
        rw [Int.mul_assoc, Int.mul_assoc]
        congr 1
        rw [← Int.mul_assoc, Int.mul_comm (B * B') b']
      have a4 : t' * B' * (B * b) = (t' * b) * (B * B') := by
        rw [Int.mul_assoc, Int.mul_assoc]
        congr 1
        rw [← Int.mul_assoc, Int.mul_comm (B' * B) b, Int.mul_comm B' B]
      rw [a3, a4, h]
    exact Int.eq_of_mul_eq_mul_right (Int.mul_ne_zero h0 h0') e
  · rintro ⟨rfl, rfl⟩
    have e : (t * b') * B = (t' * b) * B := by
      rw [Int.mul_right_comm, ← h1, Int.mul_right_comm t' b B, ← h2, Int.mul_right_comm]
    exact Int.eq_of_mul_eq_mul_right (by omega) e
theorem sum_he {T1 B1 T2 B2 a0 a1 b0 b1 : Int} (h1 : T1 * a1 = a0 * B1) (h2 : T2 * b1 = b0 * B2) : (T1 * B2 + T2 * B1) * (a1 * b1) = (a0 * b1 + b0 * a1) * (B1 * B2) := by grind
theorem dif_he {T1 B1 T2 B2 a0 a1 b0 b1 : Int} (h1 : T1 * a1 = a0 * B1) (h2 : T2 * b1 = b0 * B2) : (T1 * B2 - T2 * B1) * (a1 * b1) = (a0 * b1 - b0 * a1) * (B1 * B2) := by grind
theorem mul_he {T1 B1 T2 B2 a0 a1 b0 b1 : Int} (h1 : T1 * a1 = a0 * B1) (h2 : T2 * b1 = b0 * B2) : T1 * T2 * (a1 * b1) = a0 * b0 * (B1 * B2) := by grind
/-- a number of at most k bits -/
def Sz (k : Nat) (x : Int) : Prop := x.natAbs < 2 ^ k
theorem Sz.mono {a b : Nat} {x : Int} (h : Sz a x) (hk : a ≤ b) : Sz b x := Nat.lt_of_lt_of_le h (Nat.pow_le_pow_right (by decide) hk)
theorem Sz.le {k : Nat} {x y : Int} (hx : Sz k x) (h : y.natAbs ≤ x.natAbs) : Sz k y := Nat.lt_of_le_of_lt h hx
theorem Sz.neg {k : Nat} {x : Int} (hx : Sz k x) : Sz k (-x) := by unfold Sz at *; omega
theorem Sz.mul {a b : Nat} {x y : Int} (hx : Sz a x) (hy : Sz b y) : Sz (a + b) (x * y) := by
  unfold Sz at *
  rw [Int.natAbs_mul, Nat.pow_add]
  exact Nat.mul_lt_mul'' hx hy
theorem Sz.add {a : Nat} {x y : Int} (hx : Sz a x) (hy : Sz a y) : Sz (a + 1) (x + y) := by
  unfold Sz at *
  rw [Nat.pow_succ]
  omega
theorem Sz.sub {a : Nat} {x y : Int} (hx : Sz a x) (hy : Sz a y) : Sz (a + 1) (x - y) := by
  unfold Sz at *
  rw [Nat.pow_succ]
  omega
theorem Sz.one {k : Nat} (h : 1 ≤ k) : Sz k 1 := Sz.mono (a := 1) (by unfold Sz; decide) h
theorem Sz.pow {k : Nat} {x : Int} (h1 : 1 ≤ k) (hx : Sz k x) (n : Nat) : Sz (k * n + 1) (x ^ n) := by
  induction n with
  | zero => rw [Int.pow_zero]; exact Sz.one (by omega)
  | succ n ih =>
    rw [Int.pow_succ]
    exact (ih.mul hx).mono (by rw [Nat.mul_succ]; omega)
theorem pow_cop {T B : Int} (h : Int.gcd T B = 1) (n : Nat) : Int.gcd (T ^ n) (B ^ n) = 1 := by rw [Int.pow_gcd_pow, h, Nat.one_pow]
theorem fdiv_abs {x y : Int} (hy : y ≠ 0) : (x.fdiv y).natAbs ≤ x.natAbs := by
  have key : ∀ a b : Int, 0 < b → (a.fdiv b).natAbs ≤ a.natAbs := by
    intro a b hb
    rw [Int.fdiv_eq_ediv_of_nonneg a (by omega)]
    exact Int.natAbs_ediv_le_natAbs a b
  rcases Int.lt_or_lt_of_ne hy with h | h
  · have e := key (-x) (-y) (by omega)
    rw [Int.neg_fdiv_neg] at e
    omega
  · exact key x y h
theorem low_of {T B X Y : Int} (hc : Int.gcd T B = 1) (hB : 0 < B) (hY : Y ≠ 0) (h : T * Y = X * B) : T.natAbs ≤ X.natAbs ∧ B.natAbs ≤ Y.natAbs := by
  have d1 : B ∣ Y := dvd_cop (b := T) ⟨X, by rw [h, Int.mul_comm]⟩ (by rw [Int.gcd_comm]; exact hc)
  have d2 : T ∣ X := dvd_cop (b := B) ⟨Y, by rw [h, Int.mul_comm]⟩ hc
  constructor
  · by_cases hX : X = 0
    · subst hX
      rw [Int.zero_mul] at h
      rcases Int.mul_eq_zero.mp h with h | h
      · rw [h]; decide
      · exact absurd h hY
    · exact Nat.le_of_dvd (by omega) (Int.natAbs_dvd_natAbs.mpr d2)
  · exact Nat.le_of_dvd (by omega) (Int.natAbs_dvd_natAbs.mpr d1)
theorem fmod_mul (x : Int) {y : Int} (hy : y ≠ 0) : 0 ≤ x.fmod y * y := by
  rcases Int.lt_or_lt_of_ne hy with h | h
  · have e := fmod_neg x (-y)
    rw [Int.neg_neg] at e
    have h1 := Int.fmod_nonneg_of_pos (-x) (b := -y) (by omega)
    have h2 : 0 ≤ (-(x.fmod y)) * (-y) := Int.mul_nonneg (by omega) (by omega)
    rw [Int.neg_mul_neg] at h2
    exact h2
  · exact Int.mul_nonneg (Int.fmod_nonneg_of_pos x h) (by omega)
theorem floor_same {x y X Y : Int} (hy : y ≠ 0) (hY : 0 < Y) (h : x * Y = X * y) : x.fdiv y * Y ≤ X ∧ X < (x.fdiv y + 1) * Y := by
  have e1 := Int.mul_fdiv_add_fmod x y
  have e2 : y * (X - x.fdiv y * Y) = x.fmod y * Y := by grind
  have e3 : (x.fdiv y + 1) * Y = x.fdiv y * Y + Y := by grind
  have hl := fmod_lt (x := x) hy
  have hs := fmod_mul x hy
  generalize x.fmod y = r at *
  generalize hD : X - x.fdiv y * Y = D at *
  rw [e3]
  rcases Int.lt_or_lt_of_ne hy with g | g
  · have hr : r ≤ 0 := by
      rcases Int.lt_or_le 0 r with q | q
      · have := Int.mul_neg_of_pos_of_neg q g; omega
      · exact q
    have hrY : r * Y ≤ 0 := Int.mul_nonpos_of_nonpos_of_nonneg hr (by omega)
    have d0 : 0 ≤ D := by
      rcases Int.lt_or_le D 0 with q | q
      · have := Int.mul_pos_of_neg_of_neg g q; omega
      · exact q
    have d1 : D < Y := by
      rcases Int.lt_or_le D Y with q | q
      · exact q
      · have a1 := Int.mul_le_mul_of_nonpos_left (show y ≤ 0 by omega) q
        have a2 := Int.mul_lt_mul_of_pos_right (show y < r by omega) hY
        omega
    omega
  · have hr : 0 ≤ r := by
      rcases Int.lt_or_le r 0 with q | q
      · have := Int.mul_neg_of_neg_of_pos q g; omega
      · exact q
    have hrY : 0 ≤ r * Y := Int.mul_nonneg hr (by omega)
    have d0 : 0 ≤ D := by
      rcases Int.lt_or_le D 0 with q | q
      · have := Int.mul_neg_of_pos_of_neg g q; omega
      · exact q
    have d1 : D < Y := by
      rcases Int.lt_or_le D Y with q | q
      · exact q
      · have a1 := Int.mul_le_mul_of_nonneg_left q (show 0 ≤ y by omega)
        have a2 := Int.mul_lt_mul_of_pos_right (show r < y by omega) hY
        omega
    omega
theorem mod_sign {T B X b b' t' b0 b1 : Int} (hb : 0 < b) (hb' : 0 < b') (hB : 0 < B) (h1 : T * (b * b') = X * B) (h2 : t' * b1 = b0 * b') (hX : 0 ≤ X * (b * t')) : 0 ≤ T * b0 * b1 := by
  have e : T * b0 * b1 * (b' * (b * b') * b) = (X * (b * t')) * B * (b1 * b1) := by grind
  have p : 0 < b' * (b * b') * b := Int.mul_pos (Int.mul_pos hb' (Int.mul_pos hb hb')) hb
  have q : 0 ≤ (X * (b * t')) * B * (b1 * b1) := Int.mul_nonneg (Int.mul_nonneg hX (by omega)) (by
    rcases Int.lt_or_le b1 0 with z | z
    · exact Int.le_of_lt (Int.mul_pos_of_neg_of_neg z z)
    · exact Int.mul_nonneg z z)
  rcases Int.lt_or_le (T * b0 * b1) 0 with z | z
  · have := Int.mul_neg_of_neg_of_pos z p; omega
  · exact z
theorem mod_abs {T B X b b' t' b0 b1 : Int} (hb : 0 < b) (hb' : 0 < b') (hB : 0 < B) (h0 : b1 ≠ 0) (h1 : T * (b * b') = X * B) (h2 : t' * b1 = b0 * b') (hX : X.natAbs < (b * t').natAbs) : (T * b1).natAbs < (b0 * B).natAbs := by
  have e1 := congrArg Int.natAbs h1
  have e2 := congrArg Int.natAbs h2
  rw [Int.natAbs_mul, Int.natAbs_mul, Int.natAbs_mul] at e1
  rw [Int.natAbs_mul, Int.natAbs_mul] at e2
  rw [Int.natAbs_mul] at hX
  rw [Int.natAbs_mul, Int.natAbs_mul]
  have pb : 0 < b.natAbs := by omega
  have pb' : 0 < b'.natAbs := by omega
  have pB : 0 < B.natAbs := by omega
  have p1 : 0 < b1.natAbs := by omega
  generalize b.natAbs = b at *
  generalize b'.natAbs = c at *
  generalize B.natAbs = B at *
  generalize b1.natAbs = p at *
  generalize T.natAbs = T at *
  generalize X.natAbs = X at *
  generalize t'.natAbs = t at *
  generalize b0.natAbs = o at *
  have h3 : X * (B * p * c) < b * t * (B * p * c) := Nat.mul_lt_mul_of_pos_right hX (Nat.mul_pos (Nat.mul_pos pB p1) pb')
  have e3 : T * p * (b * c * c) = X * (B * p * c) := by grind
  have e4 : o * B * (b * c * c) = b * t * (B * p * c) := by grind
  exact Nat.lt_of_mul_lt_mul_right (a := b * c * c) (by omega)
theorem mod_he {t b t' b' q T2 B2 T B : Int} (hB2 : B2 ≠ 0) (hb : b ≠ 0) (h1 : T2 * (b' * 1) = t' * q * B2) (h2 : T * (b * B2) = (t * B2 - T2 * b) * B) : T * (b * b') = (t * b' - b * t' * q) * B := by
  refine cross (B1 := b * B2) (Int.mul_ne_zero hb hB2) h2 ?_
  grind
theorem rest_he {t b t' b' q a0 a1 b0 b1 : Int} (h1 : t * a1 = a0 * b) (h2 : t' * b1 = b0 * b') : (t * b' - b * t' * q) * (a1 * b1) = (a0 * b1 - q * b0 * a1) * (b * b') := by grind
theorem over_he {t b t' b' a0 a1 b0 b1 : Int} (h1 : t * a1 = a0 * b) (h2 : t' * b1 = b0 * b') : t * b' * (a1 * b0) = a0 * b1 * (b * t') := by grind
end GM

/-! GR: classes whose __init__ takes *args. -/
namespace GG
open PySem L2 PyProof.Rows
theorem cxUpN {P : Program} {w : World} : StX.CXUp (L2N.CX P w) := by
  rintro outer s H s2 H2 E e s' un kp ho ⟨a, B, H', cls, d, ea, fl, hok, ub, na, os, ag, he⟩
  refine ⟨a, B, H', cls, d, ea, fl, hok, ⟨fun b o q n hb => ub.keep b o (kp b o q) (un.free b o q n (by simp)) hb, fun b o q hb => ub.slot b o (kp b o q) hb, fun b o q n => ub.free b o (kp b o q) (un.free b o q n (by simp)),
    fun b o q hb => ub.there b o (kp b o q) hb, fun b xs q => ub.tups b xs (un.tups b xs q), fun b o xs q => ub.frzs b o xs (un.frzs b o xs q), fun b ps q => ?_⟩, na, os.trans ho, ag, he⟩
  obtain ⟨m1, e1⟩ := un.tbls b ps q
  obtain ⟨m2, e2⟩ := ub.tbls b _ e1
  exact ⟨m1 ++ m2, by rw [e2, Array.append_assoc]⟩
/-- the promise of a def with one parameter and *args, told of what is passed -/
def star1 (sp : Sp) : Sp := fun vs H Q E => ∃ ws rest, vs = ws ++ rest ∧ ws.length = 1 ∧ rest.length ≤ sizeLine ∧ ∀ p, H p = Option.none → sp (ws ++ [V.ref p]) (upd H p (.tup rest)) Q E
theorem Fun.okStar {P : Program} {w : World} {K : PySem.W.Frag} {mg : Str → Option Value} {base : Heap} {x qual : Str} {st : Stmt} {f : Addr} {fd : FuncData} {N : List Str} {p1 pv : Str} {k : Nat} {sp : Sp} (F : Fun K x qual st f fd) (S : FnScope N ([p1] ++ [pv]) (defScope st))
    (h0 : ∀ (kV doc pm : Value) (an : Option Addr) (cdv ct a : Value), bindArgs (PySem.W.fnOf x qual (defArgs st) (defBody st) (defScope st) .none kV doc pm an cdv ct) ⟨[a], []⟩ = (newTuple [] >>= fun t => pure [(p1, a), (pv, t)]))
    (h1 : ∀ (kV doc pm : Value) (an : Option Addr) (cdv ct a r : Value) (rs : List Value), bindArgs (PySem.W.fnOf x qual (defArgs st) (defBody st) (defScope st) .none kV doc pm an cdv ct) ⟨a :: r :: rs, []⟩ = (newTuple (r :: rs) >>= fun t => pure [(p1, a), (pv, t)]))
    (hbody : ∀ (cdv : Value) (A : Around) (outer : List Env) (s : Shared) (H : Hp) (vs : List V) (Q : VK) (E : XK), Room k (A.deeper (envOfC qual (defScope st) s.heap.objs.size f cdv)) → sp vs H Q E →
      ∃ t, PSs (cxOf (L2N.CX P w) P w K mg base N qual (defScope st) f cdv A outer s H E) (defBody st) t ∧ t { nx := fun _ H' => Q .non H', rt := Q } (start N vs) H) : FnR P w K mg base (L2N.CX P w) (k + 1) f (star1 sp) := by
  obtain ⟨oc, od, kV, doc, pm, an, cdv, ct, osl, rfl, lk, hcd⟩ := F.ex
  refine StX.fn_star (ps := [p1]) (pv := pv) lk hcd S cxUpN (fun us rest hl => ?_) fun A outer s H vs Q E hr hsp => hbody cdv A outer s H vs Q E hr hsp
  match us, hl with
  | [a], _ =>
    cases rest with
    | nil => exact h0 kV doc pm an cdv ct a
    | cons r rs => exact h1 kV doc pm an cdv ct a r rs
/-- the class x, at C, is made by its __init__ with *args -/
structure McR (P : Program) (w : World) (K : PySem.W.Frag) (mg : Str → Option Value) (base : Heap) (x : Str) (C : Addr) (k : Nat) (sp : Sp) : Prop where
  ex : ∃ f, FnR P w K mg base (L2N.CX P w) k f (star1 sp) ∧ Mk K C f ∧ mg x = some (.ref C)
def rMkR (C : Addr) (sp : Sp) (E : XK) (vs : List V) (H : Hp) (Q : VK) : Prop := ∀ x dx, H x = Option.none → H dx = Option.none → dx ≠ x →
  star1 sp (V.ref x :: vs) (upd (upd H dx (.own x)) x (.ins C dx [])) (fun v H2 => v = .non ∧ Q (.ref x) H2) E
def tMkR (C : Addr) (sp : Sp) (E : L2.St → XK) (t : TA) : TE := fun σ H Q => t σ H fun vs H1 => rMkR C sp (E σ) vs H1 Q
def rStar (K : PySem.W.Frag) (C : Addr) (sp : Sp) (E : XK) (y : V) (H : Hp) (Q : VK) : Prop := ∃ a xs, y = V.ref a ∧ (SqT K H a xs ∨ SqL K H a xs) ∧ rMkR C sp E xs H Q
def tMkRS (K : PySem.W.Frag) (C : Addr) (sp : Sp) (E : L2.St → XK) (te : TE) : TE := fun σ H Q => te σ H fun y H1 => rStar K C sp (E σ) y H1 Q
section
variable {X : Cx} {k : Nat} {C f : Addr} {sp : Sp} {E : L2.St → XK} {x : Str} {p pos p2 : Pos} {e : Expr} {es : List Expr} {te : TE} {t : TA}
theorem run_mkR {pins : List (Addr × Obj)} {σ : L2.St} {H : Hp} {s : Shared} {Q : VK} {us : List Value} {vs : List V} (M : Mk X.K C f) (F : FnR X.prog X.w X.K X.mg X.base (L2N.CX X.prog X.w) k f (star1 sp)) (hr : Room (k + 1) X.A) (hx : Ps X E) (I : L2.Inv X pins σ H s) (r : Vals vs us)
    (h : rMkR C sp (E σ) vs H Q) : wpAny (model X.prog X.w) X.A (call (.ref C) us) (EP X pins σ Q) X.xe s := by
  have hq := h (s.heap.objs.size + 1) s.heap.objs.size (I.hok.fresh (Nat.le_succ _)) (I.hok.fresh (Nat.le_refl _)) (Nat.ne_of_lt (Nat.lt_succ_self _))
  have I2 := Inv.made (C := C) I
  have r2 : Vals (V.ref (s.heap.objs.size + 1) :: vs) (Value.ref (s.heap.objs.size + 1) :: us) := .cons rfl r
  refine wpAny_call (make_map (f := f) I.kIn M.makes M.init (beq_iff_eq.mp M.fn) (codeAny_mono (F _ X.stack _ _ (Value.ref (s.heap.objs.size + 1) :: us) _ _ (E σ) (hr.make C us []) (I2.env0.make C us []) r2 hq) fun r s' hq' => ?_))
  cases r with
  | error e => exact hx σ pins _ _ e s' I2 hq'
  | ok fl =>
    cases fl with
    | ret u =>
      obtain ⟨v, H', I3, rv, ev, q3⟩ := I2.after hq'
      subst ev
      exact ⟨rv, ⟨V.ref (s.heap.objs.size + 1), H', I3, rfl, q3⟩⟩
    | next => exact False.elim hq'
    | brk => exact False.elim hq'
    | cont => exact False.elim hq'
/-- C(e, ..) -/
theorem pe_mkR (M : McR X.prog X.w X.K X.mg X.base x C k sp) (hr : Room (k + 1) X.A) (hx : Ps X E) (ha : PA X (e :: es) t) (hg : Gl X x := by rfl) (hdb : (x == ("__debug__" : Str)) = false := by decide)
    (he : starEach (e :: es) X.env = (false, eval e X.env) :: starEach es X.env := by rfl) (hpl : (backTo pos (starEach es X.env)).any (·.1) = false := by rfl) : PE X (.Call (.Name x p) (e :: es) [] pos) (tMkR C sp E t) := by
  obtain ⟨f, F, M, hm⟩ := M.ex
  refine ⟨fun pins s σ H Q I h => ?_⟩
  refine wpAny_Call_Name_kw (ld_glob I hg hm ?_ hdb)
  refine PySem.W.callWith_K (h₀ := X.base) I.ok.mod.kin M.kp (thn (ha.run pos pins s σ H _ I h) fun us s1 ⟨vs, H1, I1, r, q⟩ => ⟨I1.kIn, ?_⟩) he hpl
  exact run_mkR M F hr hx I1 r q
/-- C() -/
theorem pe_mkR0 (M : McR X.prog X.w X.K X.mg X.base x C k sp) (hr : Room (k + 1) X.A) (hx : Ps X E) (hg : Gl X x := by rfl) (hdb : (x == ("__debug__" : Str)) = false := by decide) : PE X (.Call (.Name x p) [] [] pos) (tMkR C sp E tNil) := by
  obtain ⟨f, F, M, hm⟩ := M.ex
  refine ⟨fun pins s σ H Q I h => ?_⟩
  refine wpAny_Call_Name_kw (ld_glob I hg hm ?_ hdb)
  exact PySem.W.callWith_K0 I.kIn M.kp (run_mkR (us := []) (vs := []) M F hr hx I .nil h)
/-- C(*e) -/
theorem pe_mkRS (M : McR X.prog X.w X.K X.mg X.base x C k sp) (hr : Room (k + 1) X.A) (hx : Ps X E) (he : PE X e te) (hg : Gl X x := by rfl) (hdb : (x == ("__debug__" : Str)) = false := by decide)
    (hst : starEach [.Starred e p2] X.env = [(true, eval e X.env)] := by rfl) : PE X (.Call (.Name x p) [.Starred e p2] [] pos) (tMkRS X.K C sp E te) := by
  obtain ⟨f, F, M, hm⟩ := M.ex
  refine ⟨fun pins s σ H Q I h => ?_⟩
  refine wpAny_Call_Name_kw (ld_glob I hg hm ?_ hdb)
  refine PySem.W.callWith_S (h₀ := X.base) I.ok.mod.kin M.kp (thn (he.run pins s σ H _ I h) fun v s1 ⟨y, H1, I1, ry, a, xs, ey, hxs, q⟩ => ?_) hst
  subst ey
  obtain rfl : v = Value.ref a := ry
  exact StX.star_any I1 hxs fun us s2 I2 rv => ⟨I2.kIn, run_mkR M F hr hx I2 rv q⟩
end
section
variable {K : PySem.W.Frag} {σ : L2.St} {H : Hp} {te : TE} {as : TA} {Q : VK} {E : L2.St → XK} {sp : Sp} {C a : Addr} {xs : List V}
instance i_mkR : St1 (tMkR C sp E as σ H Q) (as σ H fun vs H1 => rMkR C sp (E σ) vs H1 Q) := ⟨fun h => h⟩
instance i_mkRS : St1 (tMkRS K C sp E te σ H Q) (te σ H fun y H1 => rStar K C sp (E σ) y H1 Q) := ⟨fun h => h⟩
theorem v_starL {E : XK} (ha : H a = some (.lst xs)) (q : rMkR C sp E xs H Q) : rStar K C sp E (.ref a) H Q := ⟨a, xs, rfl, .inr (SqL.of ha), q⟩
end
end GG

/-! GZ: list(zip(a, b)) of two tuples. -/
namespace GG
open PySem PySem.Spec L2 PyProof.Rows
open PySem.Sem (wp)
section
variable {prog : Program} {w : World} {A : Around} {E : Value → Shared → Prop} {s : Shared} {z TI TO T i1 i2 l1 l2 : Addr} {f : Bool} {oT : Obj} {k1 k2 : Nat} {xs ys : Array Value}
theorem zheld_item {x y : Value} {Q : Value → Shared → Prop} (D : ZipApart z TI TO i1 i2 l1 l2) (hz : IsZipHeld s.heap z TI TO T f) (hT : s.heap.get? T = some oT) (hTI : IsPair s.heap TI (.ref i1) (.ref i2)) (h1 : s.heap.IsTupleIter i1 l1 k1) (h2 : s.heap.IsTupleIter i2 l2 k2)
    (hl1 : s.heap.IsTuple l1 xs) (hl2 : s.heap.IsTuple l2 ys) (hx : xs[k1]? = some x) (hy : ys[k2]? = some y)
    (hQ : ∀ h', IsZipHeld h' z TI TO T true → h'.IsTupleIter i1 l1 (k1 + 1) → h'.IsTupleIter i2 l2 (k2 + 1) → IsPair h' s.heap.objs.size x y → (∀ c o, c ≠ z → c ≠ i1 → c ≠ i2 → s.heap.get? c = some o → h'.get? c = some o) → Q (.ref s.heap.objs.size) { s with heap := h' }) :
    wpAny (model prog w) A (Builtin.«zip.__next__» ⟨[.ref z], []⟩) (fun fin s' => ∃ v, fin = .done (.ret v) ∧ Q v s') E s := by
  refine wpAny_bind (m := field (.ref z) 2) (wpAny_field hz rfl (x := .bool false) rfl (wpAny_bind (m := field (.ref z) 3) (wpAny_field hz rfl (x := .ref TI) rfl (wpAny_bind (wpAny_seqItems hTI rfl ?_)))))
  refine wpAny_bind (m := Builtin.SmallTypes.ownedTupleIsFree (.ref z)) (wpAny_tupleHeld_zip hz hT fun ha hza sa => ?_)
  rw [if_neg Bool.false_ne_true]
  refine wpAny_bind ?_
  rw [← Array.forIn_toList]; simp only [List.forIn_cons, List.forIn_nil]
  refine wpAny_bind (wpAny_bind (wpAny_holding (wpAny_bind (m := Builtin.SmallTypes.nextOf (.ref i1)) (RZ.nextOf_tuple_item (s := { s with heap := ha }) (h1.extBut sa.extBut D.i1z) (hl1.extBut sa.extBut D.l1z) hx fun hb i1b sb => wpAny_pure (wpAny_pure ?_)))))
  refine wpAny_bind (wpAny_bind (wpAny_holding (wpAny_bind (m := Builtin.SmallTypes.nextOf (.ref i2)) (RZ.nextOf_tuple_item (s := { s with heap := hb }) ((h2.extBut sa.extBut D.i2z).extBut sb.extBut D.i12.symm) ((hl2.extBut sa.extBut D.l2z).extBut sb.extBut D.l2i1) hy fun hd i2d sd => wpAny_pure (wpAny_pure (wpAny_pure ?_))))))
  refine wpAny_bind (m := newTuple [x, y]) (wpAny_newTuple (wpAny_pure ⟨_, rfl, ?_⟩))
  have sz : hd.objs.size = s.heap.objs.size := by rw [sd.1, sb.1, sa.1]
  have new : IsPair (hd.push { cls := .type "tuple", data := .seq #[x, y] }) hd.objs.size x y := Heap.get?_push_size _ rfl
  show Q (.ref hd.objs.size) _
  rw [sz] at new ⊢
  exact hQ _ (Heap.get?_push_of_some _ (sd.extBut _ _ D.i2z.symm (sb.extBut _ _ D.i1z.symm hza))) ((i1b.extBut sd.extBut D.i12).at fun o e => Heap.get?_push_of_some _ e) (i2d.at fun o e => Heap.get?_push_of_some _ e) new
    fun c o n1 n2 n3 e => Heap.get?_push_of_some _ (sd.extBut _ _ n3 (sb.extBut _ _ n2 (sa.extBut _ _ n1 e)))
theorem zheld_end {Q : Fin → Shared → Prop} (hh : A.handled = none) (D : ZipApart z TI TO i1 i2 l1 l2) (hz : IsZipHeld s.heap z TI TO T f) (hT : s.heap.get? T = some oT) (hTI : IsPair s.heap TI (.ref i1) (.ref i2)) (h1 : s.heap.IsTupleIter i1 l1 k1) (hl1 : s.heap.IsTuple l1 xs) (hx : xs[k1]? = none)
    (hE : ∀ h' e, (∀ c o, c ≠ z → c ≠ i1 → s.heap.get? c = some o → h'.get? c = some o) → (∃ o, h'.get? e = some o ∧ o.cls = .type "StopIteration") → E (.ref e) { s with heap := h' }) :
    wpAny (model prog w) A (Builtin.«zip.__next__» ⟨[.ref z], []⟩) Q E s := by
  refine wpAny_bind (m := field (.ref z) 2) (wpAny_field hz rfl (x := .bool false) rfl (wpAny_bind (m := field (.ref z) 3) (wpAny_field hz rfl (x := .ref TI) rfl (wpAny_bind (wpAny_seqItems hTI rfl ?_)))))
  refine wpAny_bind (m := Builtin.SmallTypes.ownedTupleIsFree (.ref z)) (wpAny_tupleHeld_zip hz hT fun ha hza sa => ?_)
  rw [if_neg Bool.false_ne_true]
  refine wpAny_bind ?_
  rw [← Array.forIn_toList, List.forIn_cons]
  refine wpAny_bind (wpAny_bind (wpAny_holding (wpAny_bind (m := Builtin.SmallTypes.nextOf (.ref i1)) (RZ.nextOf_tuple_end (s := { s with heap := ha }) hh (h1.extBut sa.extBut D.i1z) (hl1.extBut sa.extBut D.l1z) hx fun hb e sb he => ?_))))
  exact hE hb e (fun c o n1 n2 q => sb _ _ n2 (sa.extBut _ _ n1 q)) he
/-- the zip stands at turn k: it has given out nothing yet, or what it gave is still there -/
def ZAt (h : Heap) (q z TI TO i1 i2 l1 l2 : Addr) (k : Nat) : Prop :=
  ((IsZip h z TI TO .none ∧ ∃ x y, IsPair h TO x y) ∨ ∃ T f oT, IsZipHeld h z TI TO T f ∧ h.get? T = some oT ∧ T ≠ z ∧ T ≠ i1 ∧ T ≠ i2 ∧ T ≠ q) ∧ IsPair h TI (.ref i1) (.ref i2) ∧ h.IsTupleIter i1 l1 k ∧ h.IsTupleIter i2 l2 k
theorem ZAt.keep {h h' : Heap} {k : Nat} {q : Addr} (Z : ZAt h q z TI TO i1 i2 l1 l2 k) (n : q ∉ [z, TI, TO, i1, i2]) (e : ∀ c o, c ≠ q → h.get? c = some o → h'.get? c = some o) : ZAt h' q z TI TO i1 i2 l1 l2 k := by
  obtain ⟨a, b, c, d⟩ := Z
  have m : ∀ c ∈ [z, TI, TO, i1, i2], c ≠ q := fun c hc r => n (r ▸ hc)
  refine ⟨?_, e _ _ (m _ (by simp)) b, c.at (fun o r => e _ _ (m _ (by simp)) r), d.at (fun o r => e _ _ (m _ (by simp)) r)⟩
  rcases a with ⟨a, x, y, p⟩ | ⟨T, f, oT, a, p, r⟩
  · exact .inl ⟨e _ _ (m _ (by simp)) a, x, y, e _ _ (m _ (by simp)) p⟩
  · exact .inr ⟨T, f, oT, e _ _ (m _ (by simp)) a, e _ _ r.2.2.2 p, r⟩
theorem ZAt.upd {h : Heap} {k : Nat} {q : Addr} {f : Obj → Obj} (Z : ZAt h q z TI TO i1 i2 l1 l2 k) (n : q ∉ [z, TI, TO, i1, i2]) : ZAt (h.update q f) q z TI TO i1 i2 l1 l2 k := Z.keep n fun c o m r => ((Heap.SameBut.update ..).2 c m).trans r
theorem znext_item {k : Nat} {q : Addr} {x y : Value} {Q : Option Value → Shared → Prop} (hq : q < s.heap.objs.size) (D : ZipApart z TI TO i1 i2 l1 l2) (Z : ZAt s.heap q z TI TO i1 i2 l1 l2 k) (hl1 : s.heap.IsTuple l1 xs) (hl2 : s.heap.IsTuple l2 ys) (hx : xs[k]? = some x) (hy : ys[k]? = some y)
    (hQ : ∀ h', ZAt h' q z TI TO i1 i2 l1 l2 (k + 1) → IsPair h' s.heap.objs.size x y → (∀ c o, c ∉ [z, TI, TO, i1, i2] → s.heap.get? c = some o → h'.get? c = some o) → Q (some (.ref s.heap.objs.size)) { s with heap := h' }) :
    wpAny (model prog w) A (pyNext (.ref z)) Q E s := by
  obtain ⟨a, hTI, h1, h2⟩ := Z
  obtain ⟨o1, e1, _⟩ := id h1
  obtain ⟨o2, e2, _⟩ := id h2
  have g1 : s.heap.objs.size ≠ i1 := Nat.ne_of_gt (Heap.lt_size e1)
  have g2 : s.heap.objs.size ≠ i2 := Nat.ne_of_gt (Heap.lt_size e2)
  rcases a with ⟨hz, u, v, hTO⟩ | ⟨T, f, oT, hz, hT, n1, n2, n3, n4⟩
  · have g0 : s.heap.objs.size ≠ z := Nat.ne_of_gt (Heap.lt_size hz)
    refine RZ.pyNext_zipT_item D hz hTI hTO h1 h2 hl1 hl2 hx hy fun h' z' TO' a1 a2 p sz k' => ?_
    exact hQ h' ⟨.inr ⟨_, false, _, z', p, g0, g1, g2, Nat.ne_of_gt hq⟩, k' _ _ D.TIz D.TITO D.TIi1 D.TIi2 hTI, a1, a2⟩ p fun c o n q => k' c o (fun e => n (by simp [e])) (fun e => n (by simp [e])) (fun e => n (by simp [e])) (fun e => n (by simp [e])) q
  · have g0 : s.heap.objs.size ≠ z := Nat.ne_of_gt (Heap.lt_size hz)
    have ty : s.TypeIs (.ref z) "zip" := ⟨_, hz, rfl⟩
    unfold pyNext
    refine wpAny_bind (wpAny_attempt (wpAny_callSpecial?_slot (name := Str.ofString "__next__") ty F.slot_zip_next (wpAny_call_entry F.slot_zip_next ty F.entry_zip_next (zheld_item D hz hT hTI h1 h2 hl1 hl2 hx hy fun h' z' a1 a2 p k' => wpAny_pure ?_) (F.args_zip_next_1 _))))
    exact hQ h' ⟨.inr ⟨T, true, oT, z', k' T _ n1 n2 n3 hT, n1, n2, n3, n4⟩, k' _ _ D.TIz D.TIi1 D.TIi2 hTI, a1, a2⟩ p fun c o n q => k' c o (fun e => n (by simp [e])) (fun e => n (by simp [e])) (fun e => n (by simp [e])) q
theorem znext_end {k : Nat} {q : Addr} {Q : Option Value → Shared → Prop} (hh : A.handled = none) (D : ZipApart z TI TO i1 i2 l1 l2) (Z : ZAt s.heap q z TI TO i1 i2 l1 l2 k) (hl1 : s.heap.IsTuple l1 xs) (hl2 : s.heap.IsTuple l2 ys) (hx : xs[k]? = none)
    (hQ : ∀ h', (∀ c o, c ∉ [z, TI, TO, i1, i2] → s.heap.get? c = some o → h'.get? c = some o) → Q none { s with heap := h' }) : wpAny (model prog w) A (pyNext (.ref z)) Q E s := by
  obtain ⟨a, hTI, h1, h2⟩ := Z
  rcases a with ⟨hz, u, v, hTO⟩ | ⟨T, f, oT, hz, hT, n1, n2, n3, n4⟩
  · exact RZ.pyNext_zipT_end hh D hz hTI hTO h1 h2 hl1 hl2 (.inl hx) fun h' k' => hQ h' fun c o n q => k' c o (fun e => n (by simp [e])) (fun e => n (by simp [e])) (fun e => n (by simp [e])) (fun e => n (by simp [e])) q
  · have ty : s.TypeIs (.ref z) "zip" := ⟨_, hz, rfl⟩
    unfold pyNext
    refine wpAny_bind (wpAny_attempt (wpAny_callSpecial?_slot (name := Str.ofString "__next__") ty F.slot_zip_next (wpAny_call_entry F.slot_zip_next ty F.entry_zip_next (zheld_end hh D hz hT hTI h1 hl1 hx fun h' e k' he => ?_) (F.args_zip_next_1 _))))
    obtain ⟨o, ho, hc⟩ := he
    exact wpAny_bind (wpAny_isInstance (T := "StopIteration") (b := true) ⟨o, ho, hc⟩ isSubtype_stop (wpAny_pure (hQ _ fun c o n q => k' c o (fun e => n (by simp [e])) (fun e => n (by simp [e])) q)))
end
/-- no length is told of a zip -/
theorem zip_hint {M : Model} {A : Around} {E : Value → Shared → Prop} {Q : Bool → Shared → Prop} {s : Shared} {z : Addr} (hz : s.TypeIs (.ref z) "zip") (h : Q true s) : wpAny M A (Builtin.List.listLengthHint (.ref z)) Q E s := by
  have n1 : typeLookup (.type "zip") "__len__" = pure none := am_miss_of_fast (by decide +kernel)
  have n2 : typeLookup (.type "zip") "__length_hint__" = pure none := am_miss_of_fast (by decide +kernel)
  unfold Builtin.List.listLengthHint
  refine wpAny_bind (wpAny_bind (wpAny_typeOf hz ?_))
  rw [n1]
  refine wpAny_pure ?_
  refine PySem.W.KFB.if_not rfl (PySem.W.KFB.if_not rfl ?_)
  refine wpAny_bind (wpAny_bind (wpAny_typeOf hz ?_))
  rw [n2]
  exact wpAny_pure (wpAny_pure h)
theorem Ext.sqT {K : PySem.W.Frag} {H H' : Hp} {a : Addr} {xs : List V} (e : Ext H H') (h : SqT K H a xs) : SqT K H' a xs := by
  rcases h with h | h
  · rcases h with h | ⟨o, h⟩
    · exact .inl (.inl (e _ _ h))
    · exact .inl (.inr ⟨o, e _ _ h⟩)
  · exact .inr h
section
variable {X : Cx} {pins : List (Addr × Obj)} {σ : L2.St} {A1 : Around} {z TI TO i1 i2 a b q : Addr} {xs ys : List V} {Rs : Result → Shared → Prop}
theorem zip_loop (hc : A1.in1.handled = none) (D : ZipApart z TI TO i1 i2 a b) (hlen : xs.length = ys.length) (hsz : xs.length < sizeLine) {H0 : Hp} (hq0 : H0 q = none) (ha0 : SqT X.K H0 a xs) (hb0 : SqT X.K H0 b ys) (hqz : q ∉ [z, TI, TO, i1, i2])
    (hdone : ∀ ts H s, Inv X pins σ H s → Ext H0 H → H q = some (.lst (ts.map V.ref)) → Paired (fun t (p : V × V) => H t = some (.tup [p.1, p.2])) ts (xs.zip ys) → Rs (.ok (.ret .none)) s) :
    ∀ (m i : Nat) (ts : List Addr) (H : Hp) (s : Shared), m + i = xs.length → Inv X pins σ H s → ZAt s.heap q z TI TO i1 i2 a b i → (∀ c ∈ [z, TI, TO, i1, i2], FpOk X pins H c) → Ext H0 H → (∀ c ∈ [z, TI, TO, i1, i2], c < s.heap.objs.size) → H q = some (.lst (ts.map V.ref)) → ts.length = i → 
      Paired (fun t (p : V × V) => H t = some (.tup [p.1, p.2])) ts ((xs.zip ys).take i) → codeAny (model X.prog X.w) A1 (.builtin "list.extend.loop" ⟨[.ref q, .ref z, .none], []⟩) Rs s := by
  intro m
  induction m with
  | zero =>
    intro i ts H s hm I Z fp e low hq hl pr
    have ha := e.sqT ha0
    have hb := e.sqT hb0
    refine codeAny_builtin PySem.F.entry_extend_loop ?_
    rw [Around.under_plainId PySem.F.plain_extend_loop _]
    obtain ⟨its, rv, p, _⟩ := I.tuple ha
    obtain ⟨its2, rv2, p2, _⟩ := I.tuple hb
    have l1 := rv.length
    refine wpAny_bind (m := pyNext (.ref z)) (znext_end hc D Z p p2 (by simp; omega) fun h' k => ?_)
    refine wpAny_pure (hdone ts H _ (I.turnedL (t' := s.toks) (fun c o n q => k c o n q) fp) e hq ?_)
    rwa [List.take_of_length_le (by rw [List.length_zip]; omega)] at pr
  | succ m ih =>
    intro i ts H s hm I Z fp e low hq hl pr
    have ha := e.sqT ha0
    have hb := e.sqT hb0
    refine codeAny_builtin PySem.F.entry_extend_loop ?_
    rw [Around.under_plainId PySem.F.plain_extend_loop _]
    obtain ⟨its, rv, p, _⟩ := I.tuple ha
    obtain ⟨its2, rv2, p2, _⟩ := I.tuple hb
    have hx : xs[i]? = some (xs[i]'(by omega)) := List.getElem?_eq_getElem (by omega)
    have hy : ys[i]? = some (ys[i]'(by omega)) := List.getElem?_eq_getElem (by omega)
    obtain ⟨u, hu, ru⟩ := rv.get hx
    obtain ⟨u2, hu2, ru2⟩ := rv2.get hy
    have hlt : q < s.heap.objs.size := by
      obtain ⟨_, _, _, _, _, e0⟩ := I.lstM hq
      exact Heap.lt_size e0
    refine wpAny_bind (m := pyNext (.ref z)) (znext_item hlt D Z p p2 (by simpa using hu) (by simpa using hu2) fun h' Z' pT k => ?_)
    have fresh : H s.heap.objs.size = none := I.hok.fresh (Nat.le_refl _)
    have new : ObjOk X.prog X.w (upd H s.heap.objs.size (.tup [xs[i]'(by omega), ys[i]'(by omega)])) h' s.heap.objs.size (.tup [xs[i]'(by omega), ys[i]'(by omega)]) :=
      ⟨by show 2 ≤ sizeLine; decide, [u, u2], .cons ru (.cons ru2 .nil), ⟨_, pT, rfl, _, rfl⟩⟩
    have I1 : Inv X pins σ (upd H s.heap.objs.size (.tup [xs[i]'(by omega), ys[i]'(by omega)])) { s with heap := h' } := I.turnedNew (t' := s.toks) (ch := [z, TI, TO, i1, i2]) k fp (Nat.le_refl _) new
    have qn : q ≠ s.heap.objs.size := ne_of_none hq fresh
    have e1 : Ext H (upd H s.heap.objs.size (.tup [xs[i]'(by omega), ys[i]'(by omega)])) := fun b o r => by rw [upd_ne (ne_of_none r fresh)]; exact r
    have hq1 := e1 q _ hq
    obtain ⟨z', its', k', r2, hl2, e2⟩ := I1.lstM hq1
    have ll := r2.length
    rw [List.length_map] at ll
    refine wpAny_bind (m := updateSeq q (·.push (.ref s.heap.objs.size))) (wpAny_updateSeq e2 rfl (wpAny_pure ⟨plainId_quiet PySem.F.plain_extend_loop _, ?_⟩) (by rw [List.size_toArray]; omega) (by show (its'.toArray.push _).size ≤ sizeLine + 1; rw [Array.size_push, List.size_toArray]; omega))
    have I2 := I1.lset (f := (·.push (.ref s.heap.objs.size))) (its' := its' ++ [.ref s.heap.objs.size]) (ys := (ts ++ [s.heap.objs.size]).map V.ref) (t' := s.toks) hq1 e2 (by simp) (by rw [List.map_append]; exact r2.append (.cons rfl .nil)) (by rw [List.length_map, List.length_append, List.length_singleton]; omega)
    refine ih (i + 1) (ts ++ [s.heap.objs.size]) _ _ (by omega) I2 (Z'.keep hqz fun c o n r => ((Heap.SameBut.update ..).2 c n).trans r) (fun c hc => ?_) ?_ (fun c hc => ?_) upd_same (by simp [hl]) ?_
    · have f0 := fp c hc
      have n1 : c ≠ q := fun r => hqz (by rw [← r]; exact hc)
      exact ⟨by rw [upd_ne n1, upd_ne (Nat.ne_of_lt (low c hc))]; exact f0.1, f0.2⟩
    · intro c o r
      rw [upd_ne (ne_of_none r hq0)]
      exact e1 _ _ (e c o r)
    · show c < (h'.update q _).objs.size
      rw [(Heap.SameBut.update ..).1]
      exact Nat.lt_trans (low c hc) (Heap.lt_size pT)
    · have hz : (xs.zip ys)[i]? = some (xs[i]'(by omega), ys[i]'(by omega)) := by rw [List.getElem?_eq_getElem (by rw [List.length_zip]; omega)]; simp
      have old : Paired (fun t (p : V × V) => upd (upd H s.heap.objs.size (.tup [xs[i]'(by omega), ys[i]'(by omega)])) q (.lst ((ts ++ [s.heap.objs.size]).map V.ref)) t = some (.tup [p.1, p.2])) ts ((xs.zip ys).take i) := by
        refine pr.mono fun t p r => ?_
        rw [upd_ne (ne_of r hq fun z => nomatch z)]
        exact e1 _ _ r
      rw [List.take_add_one, hz]
      exact old.snoc (by rw [upd_ne (Ne.symm qn), upd_same])
end
/-- list(zip(a, b)) of two tuples of one length -/
def rZipL (K : PySem.W.Frag) (vs : List V) (H : Hp) (Q : VK) : Prop := ∃ a b xs ys, vs = [.ref a, .ref b] ∧ SqT K H a xs ∧ SqT K H b ys ∧ xs.length = ys.length ∧ xs.length < sizeLine ∧
  ∀ q ts H', H q = none → Ext H H' → H' q = some (.lst (ts.map V.ref)) → Paired (fun t (p : V × V) => H' t = some (.tup [p.1, p.2])) ts (xs.zip ys) → Q (.ref q) H'
def tZipL (K : PySem.W.Frag) (t : TA) : TE := fun σ H Q => t σ H fun vs H1 => rZipL K vs H1 Q
section
variable {X : Cx} {e e2 : Expr} {ta : TA} {p pos p2 pos2 : Pos}
theorem pe_zipL (hc : X.calm = true) (hg : Gl X "list") (hm : X.mg "list" = none) (hg2 : Gl X "zip") (hm2 : X.mg "zip" = none) (ha : PA X [e, e2] ta)
    (hs2 : starEach [e, e2] X.env = (false, eval e X.env) :: starEach [e2] X.env := by rfl) (hpl2 : (backTo pos2 (starEach [e2] X.env)).any (·.1) = false := by rfl)
    (hs : starEach [.Call (.Name "zip" p2) [e, e2] [] pos2] X.env = (false, eval (.Call (.Name "zip" p2) [e, e2] [] pos2) X.env) :: starEach [] X.env := by rfl) :
    PE X (.Call (.Name "list" p) [.Call (.Name "zip" p2) [e, e2] [] pos2] [] pos) (tZipL X.K ta) := by
  refine ⟨fun pins s σ H Q I h => ?_⟩
  refine wpAny_Call_Name_kw (ld_blt I hg hm PyProof.Rows.boot_list ?_)
  refine PyProof.Rows.callWith_type1 ?_ hs rfl
  rw [hs]
  show wpAny _ _ (spliced ((false, eval (.Call (.Name "zip" p2) [e, e2] [] pos2) X.env) :: backTo pos (starEach [] X.env))) _ _ s
  refine Calls.spliced_cons ?_
  refine Call_ (ld_blt I hg2 hm2 PyProof.Rows.boot_zip (PyProof.Rows.callWith_type1 (thn (ha.run pos2 pins s σ H _ I h) fun us s1 ⟨vs, H1, I1, r1, q1⟩ => ?_) hs2 hpl2))
  obtain ⟨a, b, xs, ys, ex, ha1, hb1, hlen, hsz, kk⟩ := q1
  subst ex
  obtain ⟨u, u2, rfl, ru, ru2⟩ := r1.two
  cases ru
  cases ru2
  obtain ⟨its, rv, p1, _⟩ := I1.tuple ha1
  obtain ⟨its2, rv2, p2', _⟩ := I1.tuple hb1
  obtain ⟨o1, ho1, _⟩ := id p1
  obtain ⟨o2, ho2, _⟩ := id p2'
  refine RZ.call_zipT (show s1.heap.IsTuple a its.toArray from p1) (show s1.heap.IsTuple b its2.toArray from p2') fun h' hz hTI hTO h1 h2 hsz' hk => ?_
  refine Calls.spliced_nil ?_
  have D := PySem.W.ktu_apart s1.heap.objs.size a b (Heap.lt_size ho1) (Heap.lt_size ho2)
  have I2 : Inv X pins σ H1 { s1 with heap := h' } := I1.kept (t' := s1.toks) hk
  have in5 : ∀ c, c ∈ [s1.heap.objs.size + 4, s1.heap.objs.size + 2, s1.heap.objs.size + 3, s1.heap.objs.size, s1.heap.objs.size + 1] → s1.heap.objs.size ≤ c ∧ c < s1.heap.objs.size + 5 := fun c hcm => by
    simp only [List.mem_cons, List.mem_nil_iff, or_false] at hcm
    rcases hcm with r | r | r | r | r <;> subst r <;> exact ⟨by first | exact Nat.le_refl _ | exact Nat.le_add_right _ _, by first | exact Nat.lt_add_of_pos_right (by decide) | exact Nat.add_lt_add_left (by decide) _⟩
  have ty : ∀ s' : Shared, IsZip s'.heap (s1.heap.objs.size + 4) (s1.heap.objs.size + 2) (s1.heap.objs.size + 3) .none → s'.TypeIs (.ref (s1.heap.objs.size + 4)) "zip" := fun s' r => ⟨_, r, rfl⟩
  have fr : H1 h'.objs.size = none := I2.hok.fresh (Nat.le_refl _)
  refine callType_codes (Q₁ := fun obj s₁ => obj = .ref h'.objs.size ∧ s₁ = { s1 with heap := h'.push { cls := .type "list", data := .seq #[] } }) PySem.F.called_list (PySem.F.typeCall_list_1 _) PySem.F.entry_list_init (code_list_new _ ⟨rfl, rfl⟩) fun obj s₁ h₁ => ?_
  obtain ⟨rfl, rfl⟩ := h₁
  have hS : (h'.push { cls := .type "list", data := .seq #[] }).get? h'.objs.size = some { cls := .type "list", data := .seq #[] } := Heap.get?_push_size _ rfl
  refine ⟨⟨_, hS, rfl⟩, PySem.F.args_list_init_2 _ _, ?_⟩
  have I3 : Inv X pins σ (upd H1 h'.objs.size (.lst [])) { s1 with heap := h'.push { cls := .type "list", data := .seq #[] } } := I2.lnew (its := []) (t' := s1.toks) .nil (Nat.zero_le _)
  refine wpAny_bind (m := Builtin.List.listItems (.ref h'.objs.size)) ?_
  unfold Builtin.List.listItems
  refine wpAny_bind (wpAny_seqItems hS rfl (wpAny_pure ?_))
  refine wpAny_bind (m := updateSeq h'.objs.size (fun _ => #[])) (wpAny_updateSeq hS rfl ?_)
  have I4 := I3.lset (f := fun _ => #[]) (its := []) (its' := []) (ys := []) (t' := s1.toks) upd_same hS rfl .nil (Nat.zero_le _)
  rw [upd_upd] at I4
  refine wpAny_bind (m := letGo (#[] : Array Value).toList.reverse) (wpAny_letGo ?_)
  have keep : ∀ c o, c ≠ h'.objs.size → h'.get? c = some o → ((h'.push { cls := .type "list", data := .seq #[] }).update h'.objs.size (Obj.mapSeq fun _ => #[])).get? c = some o := fun c o n r => ((Heap.SameBut.update ..).2 c n).trans (Heap.get?_push_of_some _ r)
  have low5 : ∀ c, c ∈ [s1.heap.objs.size + 4, s1.heap.objs.size + 2, s1.heap.objs.size + 3, s1.heap.objs.size, s1.heap.objs.size + 1] → c < h'.objs.size := fun c hcm => by rw [hsz']; exact (in5 c hcm).2
  have ne5 : ∀ c, c ∈ [s1.heap.objs.size + 4, s1.heap.objs.size + 2, s1.heap.objs.size + 3, s1.heap.objs.size, s1.heap.objs.size + 1] → c ≠ h'.objs.size := fun c hcm => Nat.ne_of_lt (low5 c hcm)
  have Z0 : ZAt ((h'.push { cls := .type "list", data := .seq #[] }).update h'.objs.size (Obj.mapSeq fun _ => #[])) h'.objs.size (s1.heap.objs.size + 4) (s1.heap.objs.size + 2) (s1.heap.objs.size + 3) s1.heap.objs.size (s1.heap.objs.size + 1) a b 0 :=
    ⟨.inl ⟨keep _ _ (ne5 _ (by simp)) hz, _, _, keep _ _ (ne5 _ (by simp)) hTO⟩, keep _ _ (ne5 _ (by simp)) hTI, h1.at fun o r => keep _ _ (ne5 _ (by simp)) r, h2.at fun o r => keep _ _ (ne5 _ (by simp)) r⟩
  unfold Builtin.List.listExtendWith
  have zt := ty { s1 with heap := (h'.push { cls := .type "list", data := .seq #[] }).update h'.objs.size (Obj.mapSeq fun _ => #[]) } (keep _ _ (ne5 _ (by simp)) hz)
  refine wpAny_bind (wpAny_typeOf zt ?_)
  have q1 : Builtin.List.listSameRef (.ref h'.objs.size) (.ref (s1.heap.objs.size + 4)) = false := by simp [Builtin.List.listSameRef, Ne.symm (ne5 (s1.heap.objs.size + 4) (by simp))]
  have q2 : (Value.type "zip" == Value.type "list") = false := rfl
  have q3 : (Value.type "zip" == Value.type "tuple") = false := rfl
  simp only [q1, q2, q3, Bool.or_false, Bool.false_eq_true, if_false]
  refine wpAny_bind (wpAny_pyIter_zip (keep _ _ (ne5 _ (by simp)) hz) ?_)
  refine wpAny_bind (wpAny_holding (zip_hint zt ?_))
  rw [Bool.true_or, if_pos rfl]
  obtain ⟨w4, its4, k4, r4, l4, e4⟩ := I4.lstM upd_same
  cases r4
  refine wpAny_bind (wpAny_rule (wpAny_bind ?_))
  refine wpAny_bind (m := updateSeq h'.objs.size (·.push .none)) (wpAny_updateSeq e4 rfl ?_)
  have I5 := I4.lset (f := (·.push Value.none)) (its' := [Value.none]) (ys := [.non]) (t' := s1.toks) upd_same e4 (by simp) (.cons rfl .nil) (by rw [List.length_singleton, sizeLine_eq]; decide)
  obtain ⟨w5, its5, k5, r5, l5, e5⟩ := I5.lstM upd_same
  obtain ⟨u5, rfl, ru5⟩ := r5.one
  refine wpAny_updateSeq e5 rfl (wpAny_pure ⟨plainId_quiet PySem.F.plain_extend_loop _, ?_⟩) (by show 1 ≤ sizeLine; rw [sizeLine_eq]; decide) (Nat.zero_le _)
  have I6 := I5.lset (f := (·.pop)) (its := [u5]) (its' := []) (ys := []) (t' := s1.toks) upd_same e5 (by rfl) .nil (Nat.zero_le _)
  rw [upd_upd, upd_upd] at I6
  have nq : h'.objs.size ∉ [s1.heap.objs.size + 4, s1.heap.objs.size + 2, s1.heap.objs.size + 3, s1.heap.objs.size, s1.heap.objs.size + 1] := fun r => Nat.lt_irrefl _ (low5 _ r)
  refine zip_loop (A1 := X.A.in1) (Rs := wants (fun r s₂ => r = .none ∧ EP X pins σ Q (.ref h'.objs.size) s₂) X.xe) (I2.ok.hd hc) D hlen hsz fr ha1 hb1 nq (fun ts H s' I' e' hq' pr => ⟨rfl, .ref h'.objs.size, H, I', rfl, kk _ ts H fr e' hq' pr⟩) xs.length 0 [] _ _ (Nat.add_zero _) I6 ((Z0.upd nq).upd nq) (fun c hcm => ?_) ?_ (fun c hcm => ?_) upd_same rfl .nil
  · have f0 := I1.fpOk (H' := H1) (in5 c hcm).1 (I1.hok.fresh (in5 c hcm).1)
    exact ⟨by rw [upd_ne (ne5 c hcm)]; exact f0.1, f0.2⟩
  · intro c o r
    rw [upd_ne (ne_of_none r fr)]
    exact r
  · refine Nat.lt_of_lt_of_le (low5 c hcm) ?_
    show _ ≤ (Heap.update _ _ _).objs.size
    rw [(Heap.SameBut.update ..).1, (Heap.SameBut.update ..).1, (Heap.SameBut.update ..).1, Heap.size_push]
    exact Nat.le_succ _
end
section
variable {K : PySem.W.Frag} {σ : L2.St} {H : Hp} {as : TA} {Q : VK} {a b : Addr} {xs ys : List V}
instance i_zipL : St1 (tZipL K as σ H Q) (as σ H fun vs H1 => rZipL K vs H1 Q) := ⟨fun h => h⟩
theorem v_zipL (ha : H a = some (.tup xs)) (hb : H b = some (.tup ys)) (hl : xs.length = ys.length) (hs : xs.length < sizeLine) (k : ∀ q ts H', H q = none → Ext H H' → H' q = some (.lst (ts.map V.ref)) → Paired (fun t (p : V × V) => H' t = some (.tup [p.1, p.2])) ts (xs.zip ys) → Q (.ref q) H') : rZipL K [.ref a, .ref b] H Q :=
  ⟨a, b, xs, ys, rfl, .inl (.inl ha), .inl (.inl hb), hl, hs, k⟩
end
end GG

/-! GI: list(o), o an own instance whose __iter__ gives a tuple's iterator; iter(tuple). -/
namespace GG
open PySem PySem.Spec L2 PyProof.Rows
/-- the tuple at l, walked to place i by the iterator at it -/
def TIt (l it : Addr) (i : Nat) : HO := .ext fun h => h.IsTupleIter it l i
/-- an object of no further use -/
def Junk (it : Addr) : HO := .ext fun h => ∃ o, h.get? it = some o
theorem tit_ok {P : Program} {w : World} {H : Hp} {h : Heap} {l it : Addr} {i : Nat} (e : h.IsTupleIter it l i) : ObjOk P w H h it (TIt l it i) := ⟨e, (let ⟨o, ho, _⟩ := e; ⟨o, ho⟩), fun h1 h2 q k => q.at k⟩
theorem junk_ok {P : Program} {w : World} {H : Hp} {h : Heap} {it : Addr} (e : ∃ o, h.get? it = some o) : ObjOk P w H h it (Junk it) := ⟨e, e, fun h1 h2 q k => let ⟨o, ho⟩ := q; ⟨o, k o ho⟩⟩
section
variable {prog : Program} {w : World} {A : Around} {E : Value → Shared → Prop} {s : Shared} {it l : Addr} {i : Nat} {xs : Array Value}
theorem iter_tup {Q : Value → Shared → Prop} (hl : s.heap.IsTuple l xs) (h : ∀ h', h'.IsTupleIter s.heap.objs.size l 0 → (∀ b o, s.heap.get? b = some o → h'.get? b = some o) → Q (.ref s.heap.objs.size) { s with heap := h' }) : wpAny (model prog w) A (call (.builtin "iter") [.ref l]) Q E s := by
  refine Calls.call_function_entry (by decide +kernel) (by decide +kernel) PySem.W.kdk_entry_iter (PySem.W.kdk_args_iter _) ?_
  unfold Builtin.«iter»
  refine wpAny_bind (m := someArgs "iter" 1 2 _) (wpAny_of_eq (a := [Value.ref l]) (by first | rfl | kernel_rfl!) (wpAny_bind (m := pyIter (.ref l)) (wpAny_pyIter_tuple hl (wpAny_pure ⟨_, rfl, h _ ⟨_, Heap.get?_push_size _ rfl, rfl, rfl⟩ fun b o e => Heap.get?_push_of_some _ e⟩))))
theorem tnext_end {Q : Option Value → Shared → Prop} (hh : A.handled = none) (hit : s.heap.IsTupleIter it l i) (hl : s.heap.IsTuple l xs) (hx : xs[i]? = none)
    (k : ∀ h', Heap.ExtBut it s.heap h' → (∃ o, h'.get? it = some o) → Q none { s with heap := h' }) : wpAny (model prog w) A (pyNext (.ref it)) Q E s := by
  obtain ⟨ob, gb, cb, db⟩ := id hit
  obtain ⟨ot, gt, _, nt, dt⟩ := hl
  unfold pyNext
  refine wpAny_bind (wpAny_attempt (wpAny_callSpecial?_slot (name := Str.ofString "__next__") hit.typeIs F.slot_tuple_iterator_next (wpAny_call_entry F.slot_tuple_iterator_next hit.typeIs F.entry_tuple_iterator_next ?_ (F.args_tuple_iterator_next_1 _))))
  refine wpAny_bind (m := field (.ref it) 0) (wpAny_field gb db (x := .ref l) rfl ?_)
  have nn : ¬ ((Value.ref l == Value.none) = true) := Bool.false_ne_true
  show wpAny _ _ (if (Value.ref l == Value.none) = true then _ else _) _ _ s
  rw [if_neg nn]
  refine wpAny_bind (m := field (.ref it) 1) (wpAny_field gb db (x := .int i 0) rfl (wpAny_bind (m := seqItems? (.ref l)) (wpAny_seqItems gt dt ?_)))
  simp only [Int.toNat_natCast, hx]
  refine wpAny_bind (wpAny_rule (wpAny_bind (wpAny_setField gb db (by simp) (wpAny_bind (m := newExc (.type "StopIteration") []) ?_))))
  simp only [newExc, newTuple]
  refine wpAny_bind (wpAny_newObj_type (wpAny_bind (m := firstArgMember _ _) (wpAny_of_eq (a := Value.none) (by first | rfl | (simp only [firstArgMember]; rfl)) (wpAny_newObj_type ?_ (by size_fits)))) (by size_fits))
  simp only [raiseNew]
  refine wpAny_bind (wpAny_handled ?_)
  first | rw [show A.in1.handled = none from hh] | rw [hh]
  refine wpAny_bind (wpAny_pure (wpAny_throw ?_))
  refine wpAny_bind (wpAny_isInstance (T := "StopIteration") (b := true) ⟨_, Heap.get?_push_size _ rfl, rfl⟩ isSubtype_stop (wpAny_pure (k _ (((Heap.SameBut.update ..).extBut.push _).push _) ?_)))
  exact ⟨_, Heap.get?_push_of_some _ (Heap.get?_push_of_some _ (Heap.get?_update_self _ gb (Obj.isFreed_of_fields (Obj.data_mapFields db _))))⟩
end
/-- iter(t), t a tuple -/
def rIterT (K : PySem.W.Frag) : List V → Hp → VK → Prop := fun xs H Q => ∃ (l : Addr) (zs : List V), xs = [.ref l] ∧ SqT K H l zs ∧ ∀ it, H it = none → Q (.ref it) (upd H it (TIt l it 0))
theorem c_iter {X : Cx} (K : PySem.W.Frag) (hK : X.K = K := by rfl) : CallR X (.builtin "iter") (rIterT K) := by
  subst hK
  intro pins s σ H xs us Q I r h
  obtain ⟨l, zs, rfl, hq, q⟩ := h
  obtain ⟨u, rfl, ru⟩ := vals1 r
  cases ru
  obtain ⟨its, rv, pl, hz⟩ := I.tuple hq
  refine iter_tup pl fun h' e k => ?_
  exact ⟨.ref s.heap.objs.size, _, I.laid (t' := s.toks) k (Nat.le_refl _) (tit_ok e), rfl, q _ (I.hok.fresh (Nat.le_refl _))⟩
section
variable {X : Cx} {pins : List (Addr × Obj)} {σ : L2.St} {A1 : Around} {it u q : Addr} {zs : List V} {Rs : Result → Shared → Prop}
theorem tit_get {H : Hp} {s : Shared} {i : Nat} (I : L2.Inv X pins σ H s) (e : H it = some (TIt u it i)) : s.heap.IsTupleIter it u i := (I.hok it _ e).1
theorem tit_loop (hc : A1.in1.handled = none) (hsz : zs.length < sizeLine) {H0 : Hp}
    (hdone : ∀ H s, L2.Inv X pins σ H s → (∀ b o, b ≠ q → b ≠ it → H0 b = some o → H b = some o) → H q = some (.lst zs) → Rs (.ok (.ret .none)) s) :
    ∀ (m i : Nat) (H : Hp) (s : Shared), m + i = zs.length → L2.Inv X pins σ H s → H it = some (TIt u it i) → SqT X.K H u zs → H q = some (.lst (zs.take i)) → (∀ b o, b ≠ q → b ≠ it → H0 b = some o → H b = some o) →
      codeAny (model X.prog X.w) A1 (.builtin "list.extend.loop" ⟨[.ref q, .ref it, .none], []⟩) Rs s := by
  intro m
  induction m with
  | zero =>
    intro i H s hm I hi hu hq e
    refine codeAny_builtin PySem.F.entry_extend_loop ?_
    rw [Around.under_plainId PySem.F.plain_extend_loop _]
    obtain ⟨its, rv, p, _⟩ := I.tuple hu
    have l1 := rv.length
    refine wpAny_bind (m := pyNext (.ref it)) (tnext_end hc (tit_get I hi) p (by simp; omega) fun h' k ex => ?_)
    have mu : Mut (H it) := by rw [hi]; exact True.intro
    have I2 := I.write (x := it) (e := it) (o := Junk it) (t' := s.toks) mu (.inl rfl) (fun b o nb z => k b o nb z) ex (junk_ok ex)
    have nq : q ≠ it := ne_of hq hi (fun z => nomatch z)
    refine wpAny_pure (hdone _ _ I2 (fun b o n1 n2 z => by rw [upd_ne n2]; exact e b o n1 n2 z) ?_)
    rw [upd_ne nq, hq, List.take_of_length_le (by omega)]
  | succ m ih =>
    intro i H s hm I hi hu hq e
    refine codeAny_builtin PySem.F.entry_extend_loop ?_
    rw [Around.under_plainId PySem.F.plain_extend_loop _]
    obtain ⟨its, rv, p, _⟩ := I.tuple hu
    have hx : zs[i]? = some (zs[i]'(by omega)) := List.getElem?_eq_getElem (by omega)
    obtain ⟨w1, hw, rw1⟩ := rv.get hx
    have mu : Mut (H it) := by rw [hi]; exact True.intro
    have nq : q ≠ it := ne_of hq hi (fun z => nomatch z)
    refine wpAny_bind (m := pyNext (.ref it)) (wpAny_pyNext_tuple_item (tit_get I hi) p (by simpa using hw) fun h' e' sb => ?_)
    have ex : ∃ o, h'.get? it = some o := let ⟨o, ho, _⟩ := e'; ⟨o, ho⟩
    have I1 := I.write (x := it) (e := it) (o := TIt u it (i + 1)) (t' := s.toks) mu (.inl rfl) (fun b o nb z => (sb.2 b nb).trans z) ex (tit_ok e')
    have hq1 : upd H it (TIt u it (i + 1)) q = some (.lst (zs.take i)) := by rw [upd_ne nq]; exact hq
    obtain ⟨z', its', k', r2, hl2, e2⟩ := I1.lstM hq1
    have ll := r2.length
    rw [List.length_take] at ll
    refine wpAny_bind (m := updateSeq q (·.push w1)) (wpAny_updateSeq e2 rfl (wpAny_pure ⟨plainId_quiet PySem.F.plain_extend_loop _, ?_⟩) (by rw [List.size_toArray]; omega) (by show (its'.toArray.push _).size ≤ sizeLine + 1; rw [Array.size_push, List.size_toArray]; omega))
    have I2 := I1.lset (f := (·.push w1)) (its' := its' ++ [w1]) (ys := zs.take (i + 1)) (t' := s.toks) hq1 e2 (by simp) (by rw [List.take_add_one, hx]; exact r2.append (.cons rw1 .nil)) (by rw [List.length_take]; omega)
    refine ih (i + 1) _ _ (by omega) I2 (by rw [upd_ne (Ne.symm nq), upd_same]) ?_ upd_same fun b o n1 n2 z => by rw [upd_ne n1, upd_ne n2]; exact e b o n1 n2 z
    have n1 : ∀ (o : HO) (a : Addr), (∀ ys, o = .tup ys ∨ (∃ v, o = .frz v (.tup ys)) → H a = some o → (upd (upd H it (TIt u it (i + 1))) q (.lst (zs.take (i + 1)))) a = some o) := fun o a ys ho ha => by
      rcases ho with rfl | ⟨v, rfl⟩
      · rw [upd_ne (ne_of ha hq fun z => nomatch z), upd_ne (ne_of ha hi fun z => nomatch z)]; exact ha
      · rw [upd_ne (ne_of ha hq fun z => nomatch z), upd_ne (ne_of ha hi fun z => nomatch z)]; exact ha
    rcases hu with h | h
    · rcases h with h | ⟨o, h⟩
      · exact .inl (.inl (n1 _ _ zs (.inl rfl) h))
      · exact .inl (.inr ⟨o, n1 _ _ zs (.inr ⟨o, rfl⟩) h⟩)
    · exact .inr h
end
/-! ### list(o) -/
section
variable {X : Cx} {k : Nat} {f : Addr} {fd : FuncData} {ps : List Str} {sp : Sp}
/-- a callee that lets nothing out -/
theorem run_quiet {A : Around} {pins : List (Addr × Obj)} {σ : L2.St} {H : Hp} {s : Shared} {Q : VK} {us : List Value} {vs : List V} {xe : Value → Shared → Prop} (F : FnOk X.prog X.w X.K X.mg X.base (L2N.CX X.prog X.w) k f fd ps sp) (hr : Room k A) (fr : A.frames = X.A.frames) (hb : L2.Binds X.K fd ps [])
    (I : L2.Inv X pins σ H s) (r : Vals vs us) (h : sp vs H Q E0) : wpAny (model X.prog X.w) A (call (.ref f) us) (EP X pins σ Q) xe s := by
  have e0 : Env0 X.prog X.w X.K X.mg X.base A X.stack s H := by
    have e := I.env0
    exact ⟨by rw [fr]; exact e.frames, e.mod, e.bs, e.bsz, e.funs, e.frf, e.hok, e.bare⟩
  have hl : (us ++ []).length = ps.length := by rw [List.append_nil, ← r.length]; exact F.len _ _ _ _ h
  refine wpAny_call (codeAny_mono (F.run A X.stack s H ⟨us, []⟩ us vs Q E0 hr e0 (by have z := hb s us I.kIn hl; rw [List.append_nil] at z; exact z) r h) fun r s' hq => ?_)
  cases r with
  | error e =>
    obtain ⟨_, _, _, _, _, _, _, _, _, _, _, _, z⟩ := hq
    exact z.elim
  | ok fl =>
    cases fl with
    | ret u => exact I.after hq
    | next => exact False.elim hq
    | brk => exact False.elim hq
    | cont => exact False.elim hq
end
/-- what is wanted of __len__ -/
def LenP (R : Hp → Prop) : VK := fun v H' => ∃ n : Int, v = .int n ∧ 0 ≤ n ∧ n < 2 ^ 63 ∧ ∃ m : Int, V.int n = .int m ∧ m ≤ 1000 ∧ R H'
def rLsOwn (K : PySem.W.Frag) (C : Addr) (spI spL : Sp) : List V → Hp → VK → Prop := fun xs H Q => ∃ a dx fs, xs = [.ref a] ∧ H a = some (.ins C dx fs) ∧ ∀ q, H q = none → spI [.ref a] (upd H q (.lst [])) (fun v H2 => ∃ it u zs dy gs, v = .ref it ∧ H2 it = some (TIt u it 0) ∧ H2 a = some (.ins C dy gs) ∧
  spL [.ref a] H2 (LenP fun H3 => H3 it = some (TIt u it 0) ∧ SqT K H3 u zs ∧ zs.length ≤ 1000 ∧ H3 q = some (.lst []) ∧ ∀ H4, (∀ b o, b ≠ q → b ≠ it → H3 b = some o → H4 b = some o) → H4 q = some (.lst zs) → Q (.ref q) H4) E0) E0
section
variable {X : Cx} {C : Addr} {k1 k2 : Nat} {ps1 ps2 : List Str} {spI spL : Sp}
theorem own_len_at {A : Around} {pins : List (Addr × Obj)} {σ : L2.St} {H : Hp} {s : Shared} {Q : VK} {a dx : Addr} {fs : List (Str × V)} {xe : Value → Shared → Prop} (S : Sm X.prog X.w X.K X.mg X.base C "__len__" k2 ps2 spL) (hr : Room (k2 + 1) A) (fr : A.frames = X.A.frames) (I : L2.Inv X pins σ H s) (ha : H a = some (.ins C dx fs))
    (q : spL [.ref a] H (fun v H' => ∃ n : Int, v = .int n ∧ 0 ≤ n ∧ n < 2 ^ 63 ∧ Q (.int n) H') E0) : wpAny (model X.prog X.w) A (call (.builtin "len") [.ref a]) (EP X pins σ Q) xe s := by
  obtain ⟨f, fd, F, hs, hf, hb⟩ := S.ex
  obtain ⟨_, _, J⟩ := inst_of I ha
  obtain ⟨m, hF⟩ := I.fr
  refine PySem.W.len_K hF I.ok.mod.kin J hs hf ?_
  refine thn (run_quiet (vs := [.ref a]) F hr.in1 fr hb I (.cons rfl .nil) q) fun r s' z => ?_
  obtain ⟨v, H', I', rv, n, rfl, h0, h1, q'⟩ := z
  obtain ⟨t, rfl⟩ := (show ∃ t, r = Value.int n t from rv)
  exact ⟨⟨h0, h1⟩, .int n, H', I'.tok _, ⟨_, rfl⟩, q'⟩
theorem own_hintL {A : Around} {pins : List (Addr × Obj)} {σ : L2.St} {H : Hp} {s : Shared} {R : Hp → Prop} {a dx : Addr} {fs : List (Str × V)} {QB : Bool → Shared → Prop} {xe : Value → Shared → Prop} (S : Sm X.prog X.w X.K X.mg X.base C "__len__" k2 ps2 spL) (hr : Room (k2 + 1) A) (fr : A.frames = X.A.frames) (I : L2.Inv X pins σ H s) (ha : H a = some (.ins C dx fs))
    (q : spL [.ref a] H (LenP R) E0) (k : ∀ b H' s', L2.Inv X pins σ H' s' → R H' → QB b s') : wpAny (model X.prog X.w) A (Builtin.List.listLengthHint (.ref a)) QB xe s := by
  obtain ⟨f, fd, F, hs, hf, hb⟩ := id S.ex
  obtain ⟨_, _, J⟩ := inst_of I ha
  unfold Builtin.List.listLengthHint
  refine wpAny_bind (wpAny_bind (J.type.here ((PySem.W.looks_findIn I.kIn hs).here ?_)))
  refine PySem.W.KFB.if_not rfl ?_
  show wpAny _ _ (rule "list.length-hint.len" >>= _) _ _ _
  refine wpAny_bind (wpAny_rule ?_)
  refine wpAny_bind (wpAny_attempt (thn (own_len_at (Q := fun v H' => ∃ n : Int, v = .int n ∧ n ≤ 1000 ∧ R H') S hr fr I ha q) fun v s' z => ?_))
  · obtain ⟨x, H', I', rx, n, rfl, hn, hR⟩ := z
    obtain ⟨t, rfl⟩ := (show ∃ t, v = Value.int n t from rx)
    dsimp only
    refine wpAny_bind (m := asInt? (.int n t)) (wpAny_pure ?_)
    dsimp only
    have h0 : Builtin.List.listTooLong n.toNat = false := by
      unfold Builtin.List.listTooLong
      simp only [decide_eq_false_iff_not, sizeLine_eq]
      omega
    rw [if_neg (by rw [h0]; exact Bool.false_ne_true)]
    exact wpAny_pure (k _ H' _ I' hR)
theorem c_lsOwn (K : PySem.W.Frag) (SI : Sm X.prog X.w X.K X.mg X.base C "__iter__" k1 ps1 spI) (SL : Sm X.prog X.w X.K X.mg X.base C "__len__" k2 ps2 spL) (hr1 : Room (k1 + 2) X.A) (hr2 : Room (k2 + 3) X.A) (hc : X.calm = true) (hK : X.K = K := by rfl) : CallR X (.type "list") (rLsOwn K C spI spL) := by
  subst hK
  intro pins s σ H xs us Q I rv h
  obtain ⟨a, dx, fs, rfl, ha, hq⟩ := h
  obtain ⟨u, rfl, ru⟩ := rv.one
  cases ru
  obtain ⟨fi, fdi, FI, hsi, hfi, hbi⟩ := SI.ex
  refine callType_codes (Q₁ := fun obj s₁ => obj = .ref s.heap.objs.size ∧ s₁ = { s with heap := s.heap.push { cls := .type "list", data := .seq #[] } }) PySem.F.called_list (PySem.F.typeCall_list_1 _) PySem.F.entry_list_init (code_list_new _ ⟨rfl, rfl⟩) fun obj s₁ h₁ => ?_
  obtain ⟨rfl, rfl⟩ := h₁
  have hS : (s.heap.push { cls := .type "list", data := .seq #[] }).get? s.heap.objs.size = some { cls := .type "list", data := .seq #[] } := Heap.get?_push_size _ rfl
  refine ⟨⟨_, hS, rfl⟩, PySem.F.args_list_init_2 _ _, ?_⟩
  have fr : H s.heap.objs.size = none := I.hok.fresh (Nat.le_refl _)
  have hI := hq _ fr
  generalize hqq : s.heap.objs.size = q at *
  have I1 : L2.Inv X pins σ (upd H q (.lst [])) { s with heap := s.heap.push { cls := .type "list", data := .seq #[] } } := by
    subst hqq
    exact I.lnew (its := []) (t' := s.toks) .nil (Nat.zero_le _)
  refine wpAny_bind (m := Builtin.List.listItems (.ref q)) ?_
  unfold Builtin.List.listItems
  refine wpAny_bind (wpAny_seqItems hS rfl (wpAny_pure ?_))
  refine wpAny_bind (m := updateSeq q (fun _ => #[])) (wpAny_updateSeq hS rfl ?_)
  have I2 := I1.lset (f := fun _ => #[]) (its := []) (its' := []) (ys := []) (t' := s.toks) upd_same hS rfl .nil (Nat.zero_le _)
  rw [upd_upd] at I2
  refine wpAny_bind (m := letGo (#[] : Array Value).toList.reverse) (wpAny_letGo ?_)
  have ha2 : upd H q (.lst []) a = some (.ins C dx fs) := by rw [upd_ne (ne_of_none ha fr)]; exact ha
  have hne : q ≠ a := Ne.symm (ne_of_none ha fr)
  obtain ⟨_, _, J⟩ := inst_of I2 ha2
  obtain ⟨m0, hF⟩ := I2.fr
  unfold Builtin.List.listExtendWith
  refine wpAny_bind (J.type.here ?_)
  have h1 : Builtin.List.listSameRef (.ref q) (.ref a) = false := by simp [Builtin.List.listSameRef, hne]
  have h2 : (Value.ref C == Value.type "list") = false := rfl
  have h3 : (Value.ref C == Value.type "tuple") = false := rfl
  simp only [h1, h2, h3, Bool.or_false, Bool.false_eq_true, if_false]
  refine wpAny_bind (PySem.W.owit_iter hF I.ok.mod.kin J hsi hfi ?_)
  refine thn (run_quiet (vs := [.ref a]) FI hr1.in1.in1 rfl hbi I2 (.cons rfl .nil) hI) fun v s' z => ?_
  obtain ⟨x, H2, I3, rx, it, u, zs, dy, gs, rfl, hit, ha3, hL⟩ := z
  cases rx
  have hT := (tit_get I3 hit).typeIs
  unfold PySem.W.OwitIt
  refine wpAny_specialOf (name := Str.ofString "__next__") hT F.slot_tuple_iterator_next.lookup ?_
  dsimp only
  refine wpAny_bind (wpAny_holding (own_hintL SL hr2.in1.in1 rfl I3 ha3 hL fun b H3 s3 I4 hR => ?_))
  obtain ⟨hit3, hu3, hz3, hq3, kk⟩ := hR
  have fin : ∀ (s4 : Shared), L2.Inv X pins σ H3 s4 → codeAny (model X.prog X.w) X.A.in1 (.builtin "list.extend.loop" ⟨[.ref q, .ref it, .none], []⟩) (wants (fun r s₂ => r = .none ∧ EP X pins σ Q (.ref q) s₂) X.xe) s4 := fun s4 I5 =>
    tit_loop (A1 := X.A.in1) (Rs := wants (fun r s₂ => r = .none ∧ EP X pins σ Q (.ref q) s₂) X.xe) (I5.ok.hd hc) (by have := sizeLine_eq; omega) (H0 := H3) (fun H4 s5 I6 e6 q6 => ⟨rfl, .ref q, H4, I6, rfl, kk H4 e6 q6⟩) zs.length 0 H3 s4 (Nat.add_zero _) I5 hit3 hu3 hq3 fun b o _ _ z => z
  refine wpAny_ite_split (fun _ => ?_) (fun _ => wpAny_pure ⟨plainId_quiet PySem.F.plain_extend_loop _, fin _ I4⟩)
  obtain ⟨w4, its4, k4, r4, l4, e4⟩ := I4.lstM hq3
  cases r4
  refine wpAny_bind (wpAny_rule (wpAny_bind ?_))
  refine wpAny_bind (m := updateSeq q (·.push .none)) (wpAny_updateSeq e4 rfl ?_)
  have I5 := I4.lset (f := (·.push Value.none)) (its' := [Value.none]) (ys := [.non]) (t' := s3.toks) hq3 e4 (by simp) (.cons rfl .nil) (by rw [List.length_singleton, sizeLine_eq]; decide)
  obtain ⟨w5, its5, k5, r5, l5, e5⟩ := I5.lstM upd_same
  obtain ⟨u5, rfl, ru5⟩ := r5.one
  refine wpAny_updateSeq e5 rfl (wpAny_pure ⟨plainId_quiet PySem.F.plain_extend_loop _, fin _ ?_⟩) (by show 1 ≤ sizeLine; rw [sizeLine_eq]; decide) (Nat.zero_le _)
  have I6 := I5.lset (f := (·.pop)) (its := [u5]) (its' := []) (ys := []) (t' := s3.toks) upd_same e5 (by rfl) .nil (Nat.zero_le _)
  rw [upd_upd] at I6
  have hH : upd H3 q (.lst []) = H3 := by
    funext b
    by_cases hb : b = q
    · rw [hb, upd_same, hq3]
    · rw [upd_ne hb]
  rw [hH] at I6
  exact I6
end
section
variable {K : PySem.W.Frag} {H : Hp} {Q : VK} {C a u dx : Addr} {fs : List (Str × V)} {zs : List V} {spI spL : Sp}
theorem v_lsOwn (ha : H a = some (.ins C dx fs)) (hu : H u = some (.tup zs)) (hz : zs.length ≤ 1000)
    (hI : ∀ H1 Q', Ext H H1 → (∀ it H2, H1 it = none → Ext H1 H2 → H2 it = some (TIt u it 0) → Q' (.ref it) H2) → spI [.ref a] H1 Q' E0)
    (hL : ∀ H1 Q', Ext H H1 → Q' (.int zs.length) H1 → spL [.ref a] H1 Q' E0) (k : ∀ q H', H q = none → Ext H H' → H' q = some (.lst zs) → Q (.ref q) H') : rLsOwn K C spI spL [.ref a] H Q := by
  refine ⟨a, dx, fs, rfl, ha, fun q nq => hI _ _ (Ext.new nq) fun it H2 nit e2 hit => ?_⟩
  have e02 : Ext H H2 := (Ext.new nq).trans e2
  have hq2 := e2.look (upd_same (H := H) (a := q) (o := .lst []))
  have nit0 : H it = none := (Ext.new nq).free nit
  refine ⟨it, u, zs, dx, fs, rfl, hit, e02.look ha, hL H2 _ e02 ⟨zs.length, rfl, by omega, by omega, zs.length, rfl, by omega, hit, .inl (.inl (e02.look hu)), hz, hq2, fun H4 e4 q4 => ?_⟩⟩
  exact k q H4 nq (fun b o z => e4 b o (ne_of_none z nq) (ne_of_none z nit0) (e02 b o z)) q4
theorem v_iterT (hu : H u = some (.tup zs)) (k : ∀ it H', H it = none → Ext H H' → H' it = some (TIt u it 0) → Q (.ref it) H') : rIterT K [.ref u] H Q := ⟨u, zs, rfl, .inl (.inl hu), fun it nit => k it _ nit (Ext.new nit) upd_same⟩
end
end GG

/-! GY: own __getitem__, conversions, slices, == of data, comprehensions by a walk, isinstance with a tuple of classes. -/
namespace GG
open PySem L2 PyProof.Rows
/-! ### x[i] by the text's own __getitem__ -/
def rGet (C : Addr) (sp : Sp) (E : L2.St → XK) : R2S := fun σ x y H Q => ∃ a dx fs, x = .ref a ∧ H a = some (.ins C dx fs) ∧ sp [.ref a, y] H Q (E σ)
def Gets (K : PySem.W.Frag) (C : Addr) : Prop := ∃ f, PySem.W.findIn K (.ref C) "__getitem__" = some (some (.ref f)) ∧ PySem.W.fnIn K f = true
section
variable {X : Cx} {k : Nat} {C : Addr} {ps : List Str} {sp : Sp} {E : L2.St → XK} {a b : Expr} {ta tb : TE} {pos : Pos}
theorem pe_ixOwn (S : Sm X.prog X.w X.K X.mg X.base C "__getitem__" k ps sp) (hg : Gets X.K C) (hr : Room (k + 1) X.A) (hx : Ps X E) (ha : PE X a ta) (hb : PE X b tb)
    (hsl : ∀ x i, subscripted b true (.ref x) i = runValue (.builtin "lifetime.subscript" ⟨[.ref x, i], []⟩) := by intro _ _; with_unfolding_all rfl) : PE X (.Subscript a b pos) (tOpS (rGet C sp E) ta tb) := by
  obtain ⟨f, fd, F, hs, hf, hbd⟩ := S.ex
  obtain ⟨f', hs', hg⟩ := hg
  have ef : f' = f := by
    rw [hs] at hs'
    injection hs' with h
    injection h with h
    injection h with h
    exact h.symm
  subst ef
  refine ⟨fun pins s σ H Q I h => ?_⟩
  refine Subscript_ (binT ha hb I h fun v u s2 x y H2 I2 rx ry q => ?_)
  obtain ⟨o, dx, fs, rfl, ho, q⟩ := q
  cases rx
  obtain ⟨_, _, J⟩ := inst_of I2 ho
  obtain ⟨m, hF⟩ := I2.fr
  exact PySem.W.sub_K hF I2.ok.mod.kin J hs hg hf (run_at0 (vs := [.ref o, y]) F hr.in1 rfl hbd (hx σ) I2 (.cons rfl (.cons ry .nil)) q) (hsl _ _)
end
/-! ### conversions, sums, slices -/
def cList (K : PySem.W.Frag) : List V → Hp → VK → Prop := fun xs H Q => ∃ p ys, xs = [.ref p] ∧ (SqL K H p ys ∨ SqT K H p ys) ∧ ∀ l, H l = none → Q (.ref l) (upd H l (.lst ys))
def cTuple (K : PySem.W.Frag) : List V → Hp → VK → Prop := fun xs H Q => ∃ p ys, xs = [.ref p] ∧ ((SqL K H p ys ∧ ∀ l, H l = none → Q (.ref l) (upd H l (.tup ys))) ∨ (SqT K H p ys ∧ Q (.ref p) H))
def uSl (K : PySem.W.Frag) : V → Option Int → Option Int → Hp → VK → Prop := fun x lo hi H Q => rSlL K x lo hi H Q ∨ (rSlA K x lo hi H Q ∨ rSlS x lo hi H Q)
section
variable {X : Cx} (K : PySem.W.Frag)
theorem c_list (hK : X.K = K := by rfl) : CallR X (.type "list") (cList K) := by subst hK; exact call_list_of
theorem c_tuple (hK : X.K = K := by rfl) : CallR X (.type "tuple") (cTuple K) := by subst hK; exact call_tuple_of
theorem c_sum (hc : X.calm = true) (hK : X.K = K := by rfl) : CallR X (.builtin "sum") (rSum K) := by subst hK; exact cr_sum hc
theorem c_any (hc : X.calm = true) (hK : X.K = K := by rfl) : CallR X (.builtin "any") (rAny K) := by subst hK; exact cr_any hc
theorem c_all (hc : X.calm = true) (hK : X.K = K := by rfl) : CallR X (.builtin "all") (rAll K) := by subst hK; exact cr_all hc
theorem u_sl (hK : X.K = K := by rfl) : SlR X (uSl K) := by subst hK; exact sl_list.or (sl_tupA.or sl_str)
theorem c_isiT (hK : X.K = K := by rfl) : CallR X (.builtin "isinstance") (rIsiT K) := by subst hK; exact call_isiT
end
/-- isinstance(e, (c1, ..)), e the exception that the suite holds -/
def rIsXT (K : PySem.W.Frag) (mg : Str → Option Value) (a : Addr) (cls : Value) (d : Option Addr) : List V → Hp → VK → Prop := fun xs H Q =>
  ∃ (n : Str) (C fI dd : Addr) (v : V) (tp : Addr) (cs : List V) (us : List Value) (b : Bool), xs = [.ref a, .ref tp] ∧ cls = .ref C ∧ PySem.GErr.ErrTxt K mg n C fI ∧ d = some dd ∧ H dd = some (.xd (subj v)) ∧ H tp = some (.tup cs) ∧ Paired ClsV cs us ∧ PySem.W.kitAny K (.ref C) us = some b ∧ Q (.bl b) H
theorem call_isXT {X : Cx} (K : PySem.W.Frag) (mg : Str → Option Value) {a : Addr} {oe : Obj} {cls : Value} {d : Option Addr} (hz : Zc cls d oe) (hf : ∃ vs, oe.data = .fields vs) (hp : (a, oe) ∈ X.pn := by exact List.Mem.head _) (hK : X.K = K := by rfl) (hM : X.mg = mg := by rfl) : CallR X (.builtin "isinstance") (rIsXT K mg a cls d) := by
  subst hK
  subst hM
  intro pins s σ H xs us Q I r h
  obtain ⟨n, C, fI, dd, v, tp, cs, ws, b, rfl, ec, T, ed, ea, hT, k, hk, q⟩ := h
  subst ec
  subst ed
  obtain ⟨u1, u2, rfl, r1, r2⟩ := vals2 r
  cases r1
  cases (show u2 = Value.ref tp from r2)
  obtain ⟨hget, _⟩ := I.pin (a, oe) (List.mem_append_left _ hp)
  obtain ⟨vs, hd⟩ := hf
  obtain ⟨mA, hns, hr⟩ := (show ObjOk X.prog X.w H s.heap dd (.xd (subj v)) from I.hok dd _ ea)
  obtain ⟨od, ho, hl⟩ := lookIn_ns hns
  have J : PySem.W.InstAt s.heap a oe C (some od) := ⟨hget, hz.1, by unfold PySem.W.notCls; rw [hd] <;> rfl, by rw [hz.2]; exact ho⟩
  have hcl : (PySem.W.clsIn X.K C).isSome = true := by
    obtain ⟨cd, hc, _⟩ := PySem.W.any_some T.hdC
    rw [hc]
    rfl
  obtain ⟨_, its, rv, o, h1, h2, m, h3⟩ := (show ObjOk X.prog X.w H s.heap tp (.tup cs) from I.hok tp _ hT)
  have e3 := ClsV.all k rv
  subst e3
  obtain ⟨oc, od', dt, sl⟩ := o
  simp only at h2 h3
  subst h2 h3
  exact PySem.W.kia_tup (PySem.W.kitx_exc (x := a) (ox := oe) (od := some od) hcl T.ga T.gg T.exC T.haC T.hnC T.htC T.hmC) I.kIn J h1 hk (fun z => nomatch z) fun tk => ⟨.bl b, H, I.tok tk, rfl, q⟩
/-! ### == of data -/
theorem eqv_ints : ∀ {ms ns : List Int}, PyData.eqvAll (ms.map PyData.int) (ns.map PyData.int) = decide (ms = ns)
  | [], [] => by simp [PyData.eqvAll]
  | [], n :: ns => by simp [PyData.eqvAll]
  | m :: ms, [] => by simp [PyData.eqvAll]
  | m :: ms, n :: ns => by
    rw [List.map_cons, List.map_cons]
    unfold PyData.eqvAll
    rw [eqv_ints]
    unfold PyData.eqv
    rw [Bool.eq_iff_iff]
    simp
theorem lay_ints : ∀ {ms : List Int}, PyData.canLayAll0 (ms.map PyData.int) = true ∧ PyData.depthAll (ms.map PyData.int) = 0
  | [] => ⟨rfl, rfl⟩
  | m :: ms => by
    obtain ⟨h1, h2⟩ := lay_ints (ms := ms)
    rw [List.map_cons]
    unfold PyData.canLayAll0 PyData.depthAll
    rw [h1, h2]
    exact ⟨rfl, rfl⟩
section
variable {K : PySem.W.Frag} {H : Hp} {Q : VK} {a b c d l p : Addr} {ms ns : List Int} {xs ys : List V} {n : Nat} {i : Int}
theorem dp_ints : ∀ {ms : List Int}, DpAll K H (ms.map V.int) (ms.map PyData.int)
  | [] => .nil
  | m :: ms => .cons (.int m) dp_ints
theorem shaped_ints : SeqAt.shaped (.list (ms.map PyData.int)) = true := by
  unfold SeqAt.shaped PyData.canLay0 PyData.depth
  rw [lay_ints.1, lay_ints.2]
  rfl
theorem shaped_intsT : SeqAt.shaped (.tuple (ms.map PyData.int)) = true := by
  unfold SeqAt.shaped PyData.canLay0 PyData.depth
  rw [lay_ints.1, lay_ints.2]
  rfl
theorem shaped_1T : SeqAt.shaped (.list [.tuple (ms.map PyData.int)]) = true := by
  unfold SeqAt.shaped PyData.canLay0 PyData.depth PyData.canLayAll0 PyData.depthAll PyData.canLayAll0 PyData.depthAll PyData.canLay0 PyData.depth
  rw [lay_ints.1, lay_ints.2]
  rfl
theorem v_eqLI (ha : H a = some (.lst (ms.map V.int))) (hb : H b = some (.lst (ns.map V.int))) (q : Q (.bl (decide (ms = ns))) H) : uEq K (.ref a) (.ref b) H Q :=
  .inr ⟨_, _, .lst (SqL.of ha) dp_ints, .lst (SqL.of hb) dp_ints, shaped_ints, shaped_ints, by unfold PyData.eqv; rw [eqv_ints]; exact q⟩
theorem v_neLI (ha : H a = some (.lst (ms.map V.int))) (hb : H b = some (.lst (ns.map V.int))) (q : Q (.bl (!decide (ms = ns))) H) : uNe K (.ref a) (.ref b) H Q :=
  .inr ⟨_, _, .lst (SqL.of ha) dp_ints, .lst (SqL.of hb) dp_ints, shaped_ints, shaped_ints, by unfold PyData.eqv; rw [eqv_ints]; exact q⟩
theorem v_eqTI (ha : H a = some (.tup (ms.map V.int))) (hb : H b = some (.tup (ns.map V.int))) (q : Q (.bl (decide (ms = ns))) H) : uEq K (.ref a) (.ref b) H Q :=
  .inr ⟨_, _, .tup (SqT.of ha) dp_ints, .tup (SqT.of hb) dp_ints, shaped_intsT, shaped_intsT, by unfold PyData.eqv; rw [eqv_ints]; exact q⟩
theorem v_neTI (ha : H a = some (.tup (ms.map V.int))) (hb : H b = some (.tup (ns.map V.int))) (q : Q (.bl (!decide (ms = ns))) H) : uNe K (.ref a) (.ref b) H Q :=
  .inr ⟨_, _, .tup (SqT.of ha) dp_ints, .tup (SqT.of hb) dp_ints, shaped_intsT, shaped_intsT, by unfold PyData.eqv; rw [eqv_ints]; exact q⟩
theorem v_neL1T (ha : H a = some (.lst [.ref c])) (hc : H c = some (.tup (ms.map V.int))) (hb : H b = some (.lst [.ref d])) (hd : H d = some (.tup (ns.map V.int))) (q : Q (.bl (!decide (ms = ns))) H) : uNe K (.ref a) (.ref b) H Q :=
  .inr ⟨_, _, .lst (SqL.of ha) (.cons (.tup (SqT.of hc) dp_ints) .nil), .lst (SqL.of hb) (.cons (.tup (SqT.of hd) dp_ints) .nil), shaped_1T, shaped_1T, by
    have e : PyData.eqv (.list [.tuple (ms.map PyData.int)]) (.list [.tuple (ns.map PyData.int)]) = decide (ms = ns) := by
      have e0 : PyData.eqv (.list [.tuple (ms.map PyData.int)]) (.list [.tuple (ns.map PyData.int)]) = (PyData.eqvAll (ms.map PyData.int) (ns.map PyData.int) && true) := by simp only [PyData.eqv, PyData.eqvAll]
      rw [e0, eqv_ints, Bool.and_true]
    rw [e]
    exact q⟩
/-! ### conversions by values -/
theorem v_listL (ha : H a = some (.lst xs)) (k : ∀ p H2, H p = none → Ext H H2 → H2 p = some (.lst xs) → Q (.ref p) H2) : cList K [.ref a] H Q := ⟨a, xs, rfl, .inl (SqL.of ha), fun p hp => k p _ hp (Ext.new hp) upd_same⟩
theorem v_listT (ha : H a = some (.tup xs)) (k : ∀ p H2, H p = none → Ext H H2 → H2 p = some (.lst xs) → Q (.ref p) H2) : cList K [.ref a] H Q := ⟨a, xs, rfl, .inr (SqT.of ha), fun p hp => k p _ hp (Ext.new hp) upd_same⟩
theorem v_tupL (ha : H a = some (.lst xs)) (k : ∀ p H2, H p = none → Ext H H2 → H2 p = some (.tup xs) → Q (.ref p) H2) : cTuple K [.ref a] H Q := ⟨a, xs, rfl, .inl ⟨SqL.of ha, fun p hp => k p _ hp (Ext.new hp) upd_same⟩⟩
theorem v_tupT (ha : H a = some (.tup xs)) (k : Q (.ref a) H) : cTuple K [.ref a] H Q := ⟨a, xs, rfl, .inr ⟨SqT.of ha, k⟩⟩
theorem v_sum (ha : H a = some (.lst (ms.map V.int))) (k : Q (.int ms.sum) H) : rSum K [.ref a] H Q := ⟨a, ms, rfl, SqL.of ha, k⟩
theorem v_any {bs : List Bool} (ha : H a = some (.lst (bs.map V.bl))) (k : Q (.bl (bs.any id)) H) : rAny K [.ref a] H Q := ⟨a, bs, rfl, SqL.of ha, k⟩
theorem v_all {bs : List Bool} (ha : H a = some (.lst (bs.map V.bl))) (k : Q (.bl (bs.all id)) H) : rAll K [.ref a] H Q := ⟨a, bs, rfl, SqL.of ha, k⟩
/-- xs[:n], a list -/
theorem v_slLn (ha : H a = some (.lst xs)) (k : ∀ p H2, H p = none → Ext H H2 → H2 p = some (.lst (xs.take n)) → Q (.ref p) H2) : uSl K (.ref a) none (some (n : Int)) H Q := by
  refine .inl ⟨a, xs, rfl, SqL.of ha, fun p hp => k p _ hp (Ext.new hp) ?_⟩
  rw [upd_same]
  have e : cutV xs none (some (n : Int)) = xs.take n := by
    unfold cutV
    have e1 : HT.sIx xs.length 0 none = 0 := rfl
    rw [e1, HT.sIx_nat, Nat.sub_zero, List.drop_zero]
    rcases Nat.le_total n xs.length with h | h
    · rw [Nat.min_eq_left h]
    · rw [Nat.min_eq_right h, List.take_length, List.take_of_length_le h]
  rw [e]
theorem rep_flat {v : V} : ∀ n : Nat, (List.replicate n [v]).flatten = List.replicate n v
  | 0 => rfl
  | n + 1 => by rw [List.replicate_succ, List.replicate_succ, List.flatten_cons, rep_flat n]; rfl
theorem v_rep1 {v : V} (ha : H a = some (.lst [v])) (hn : n ≤ 1000000) (k : ∀ p H2, H p = none → Ext H H2 → H2 p = some (.lst (List.replicate n v)) → Q (.ref p) H2) : uMul (.ref a) (.int (n : Int)) H Q := by
  refine .inr ⟨a, n, [v], rfl, rfl, ha, by omega, by omega, ?_, fun p hp => k p _ hp (Ext.new hp) ?_⟩
  · have := sizeLine_eq
    simp
    omega
  · rw [upd_same]
    rw [Int.toNat_natCast, rep_flat]
theorem v_isTT (ha : H a = some (.tup xs)) (q : Q (.bl true) H) : rIsi K [.ref a, .ty "tuple"] H Q := ⟨.ref a, .ty "tuple", .type "tuple", .type "tuple", true, rfl, .ty _, .base (.tup ha), kit_ty (by decide +kernel), q⟩
end
theorem pe_mkRSK {X : Cx} {C : Addr} {sp : Sp} {E : L2.St → XK} {te : TE} {e : Expr} (K : PySem.W.Frag) (h : PE X e (tMkRS X.K C sp E te)) (hK : X.K = K := by rfl) : PE X e (tMkRS K C sp E te) := by subst hK; exact h
theorem pe_zipLK {X : Cx} {t : TA} {e : Expr} (K : PySem.W.Frag) (h : PE X e (tZipL X.K t)) (hK : X.K = K := by rfl) : PE X e (tZipL K t) := by subst hK; exact h
theorem br_yes {p A B : Prop} [Decidable p] (h : p) (k : A) : Br (decide p) A B := by rw [decide_eq_true h]; exact br_t k
theorem br_no {p A B : Prop} [Decidable p] (h : ¬ p) (k : B) : Br (decide p) A B := by rw [decide_eq_false h]; exact br_f k
/-! ### slices, step by step -/
def rPart (x : V) (H : Hp) (Q : Option Int → Hp → Prop) : Prop := ∃ i, x = .int i ∧ Q (some i) H
section
variable {K : PySem.W.Frag} {σ : L2.St} {H : Hp} {Q : VK} {QO : Option Int → Hp → Prop} {te ta tb : TE} {tl th : TO} {i : Int} {sp : Sp} {E : L2.St → XK} {C a dx : Addr} {fs : List (Str × V)} {y : V}
instance i_sl {r : V → Option Int → Option Int → Hp → VK → Prop} : St1 (tSl r te tl th σ H Q) (te σ H fun x H1 => tl σ H1 fun l H2 => th σ H2 fun u H3 => r x l u H3 Q) := ⟨fun h => h⟩
instance i_nopart : St1 (tNoPart σ H QO) (QO none H) := ⟨fun h => h⟩
instance i_part : St1 (tPart te σ H QO) (te σ H fun x H1 => rPart x H1 QO) := ⟨fun h => h⟩
instance i_partI : St1 (rPart (.int i) H QO) (QO (some i) H) := ⟨fun h => ⟨i, rfl, h⟩⟩
theorem v_get (ha : H a = some (.ins C dx fs)) (q : sp [.ref a, y] H Q (E σ)) : rGet C sp E σ (.ref a) y H Q := ⟨a, dx, fs, rfl, ha, q⟩
theorem v_isXT {mg : Str → Option Value} {n : Str} {fI dd tp : Addr} {v : V} {cs : List V} {us : List Value} {b : Bool} (T : PySem.GErr.ErrTxt K mg n C fI) (hd : H dd = some (.xd (subj v))) (hT : H tp = some (.tup cs)) (hp : Paired ClsV cs us) (k : PySem.W.kitAny K (.ref C) us = some b) (q : Q (.bl b) H) : rIsXT K mg a (.ref C) (some dd) [.ref a, .ref tp] H Q :=
  ⟨n, C, fI, dd, v, tp, cs, us, b, rfl, rfl, T, rfl, hd, hT, hp, k, q⟩
end
/-! ### comprehensions by a walk -/
/-- the test and the element of a comprehension, its names set -/
def LcT (vs : List Nat) (σw : L2.St) (tt : TT) (te : TE) (kY : VK) (kN : Hp → Prop) (σ2 : L2.St) (H2 : Hp) : Prop := wipe σ2 vs = σw ∧ tt σ2 H2 fun b H3 => Br b (te σ2 H3 kY) (kN H3)
section
variable {K : PySem.W.Frag} {J : It} {n : Nat} {G : Hp → Prop} {Y : Nat → Hp → V → Hp → Prop} {σ σw : L2.St} {H : Hp} {g : TG} {tt : TT} {te : TE} {vs : List Nat} {Q : VK} {kY : VK} {kN : Hp → Prop}
instance i_lct [a : WipeS σ vs σw] : St1 (LcT vs σw tt te kY kN σ H) (tt σ H fun b H3 => Br b (te σ H3 kY) (kN H3)) := ⟨fun h => ⟨a.h, h⟩⟩
theorem f_it {nx bk ct : L2.St → Hp → Prop} {rt : VK} {t : TS} (w : Walk J n G Y) (Pv : Nat → L2.St → Hp → Prop) (h0 : Pv 0 σ H) (hG : ∀ i σ H, i ≤ n → Pv i σ H → G H)
    (hs : ∀ i x σ H H', i < n → Pv i σ H → Y i H x H' → g x σ H' fun σ2 H2 => Run t (Pv (i + 1)) rt nx (Pv (i + 1)) σ2 H2) (hd : ∀ σ H, Pv n σ H → nx σ H) : rFor J g t nx rt bk ct σ H := for_it (D := ⟨nx, rt, bk, ct⟩) w Pv h0 hG hs hd
/-- the new list at D has its items so far, of which R -/
def LcAtW (D : Addr) (j : Nat) (R : Nat → List V → Hp → Prop) (H : Hp) : Prop := ∃ acc, H D = some (.lst acc) ∧ acc.length ≤ j ∧ R j acc H
def AccK (D : Addr) (j : Nat) (R : Nat → List V → Hp → Prop) (y : V) (H : Hp) : Prop := rAcc D (LcAtW D j R) y H
theorem v_accK {D : Addr} {j : Nat} {R : Nat → List V → Hp → Prop} {acc : List V} {y : V} (hD : H D = some (.lst acc)) (hl : acc.length < j) (hj : j ≤ 1000000) (k : ∀ H2, But D H H2 → R j (acc ++ [y]) H2) : AccK D j R y H :=
  ⟨acc, hD, by have := sizeLine_eq; omega, acc ++ [y], upd_same, by simp; omega, k _ But.upd⟩
theorem lcW (w : Walk J n G Y) [a : WipeS σ vs σw] (R : Nat → List V → Hp → Prop) (h0 : ∀ H1, Ext H H1 → R 0 [] H1) (hG : ∀ i acc H1, i ≤ n → R i acc H1 → G H1)
    (hs : ∀ i x D acc H1 H1', H D = none → i < n → R i acc H1 → Y i H1 x H1' → H1 D = some (.lst acc) → acc.length ≤ i → g x σw H1' fun σ2 H2 => LcT vs σw tt te (AccK D (i + 1) R) (LcAtW D (i + 1) R) σ2 H2)
    (hd : ∀ D acc H1, H D = none → H1 D = some (.lst acc) → acc.length ≤ n → R n acc H1 → Q (.ref D) H1) : rLc J g tt te vs σ H Q := by
  intro D hD
  refine lc_it w (Pv := fun i H1 => LcAtW D i R H1) ⟨[], upd_same, Nat.le_refl _, h0 _ (Ext.new hD)⟩ ?_ ?_ ?_
  · rintro i H1 hi ⟨acc, ha, hl, hr⟩
    exact hG i acc H1 hi hr
  · rintro i x H1 H1' hi ⟨acc, ha, hl, hr⟩ hy
    rw [a.h]
    exact hs i x D acc H1 H1' hD hi hr hy ha hl
  · rintro H1 ⟨acc, ha, hl, hr⟩
    exact hd D acc H1 hD ha hl hr
/-- [e for x in ..], e's value told, what was stays -/
theorem lcP (w : Walk J n G Y) [a : WipeS σ vs σw] (hn : n ≤ 1000000) (f : Nat → V) (hG : ∀ H1, Ext H H1 → G H1) (hY : ∀ i H1 x H1', Y i H1 x H1' → Ext H1 H1')
    (hs : ∀ i x H1 H1' (k : VK), i < n → Ext H H1 → Y i H1 x H1' → (∀ H2, Ext H1' H2 → k (f i) H2) → g x σw H1' fun σ2 H2 => LcK vs σw te k σ2 H2)
    (hd : ∀ D H1, H D = none → Ext H H1 → H1 D = some (.lst ((List.range n).map f)) → Q (.ref D) H1) : rLc J g tYes te vs σ H Q := by
  refine lcW w (fun i acc H1 => Ext H H1 ∧ acc = (List.range i).map f) (fun H1 e => ⟨e, rfl⟩) (fun i acc H1 _ h => hG H1 h.1) ?_ ?_
  · rintro i x D acc H1 H1' hD hi ⟨e, rfl⟩ hy h1 hl
    refine hs i x H1 H1' _ hi e hy fun H2 e2 => ?_
    have e1 := hY i H1 x H1' hy
    refine v_accK ((e1.trans e2).look h1) (by simp) (by omega) fun H3 b3 => ⟨b3.ext ((e.trans e1).trans e2) hD, ?_⟩
    rw [List.range_succ, List.map_append, List.map_singleton]
  · rintro D acc H1 hD h1 hl ⟨e, rfl⟩
    exact hd D H1 hD e h1
theorem yat_ext {xs : List V} {i : Nat} {H1 H1' : Hp} {x : V} (h : YAt xs i H1 x H1') : Ext H1 H1' := by rw [h.1]; exact Ext.rfl
theorem yfn_ext {f : Nat → V} {i : Nat} {H1 H1' : Hp} {x : V} (h : YFn f i H1 x H1') : Ext H1 H1' := by rw [h.1]; exact Ext.rfl
/-- .. over a list -/
theorem lcPL {ad : Addr} {xs : List V} [a : WipeS σ vs σw] (ha : H ad = some (.lst xs)) (hn : xs.length ≤ 1000000) (f : Nat → V)
    (hs : ∀ i x H1 (k : VK), xs[i]? = some x → Ext H H1 → (∀ H2, Ext H1 H2 → k (f i) H2) → g x σw H1 fun σ2 H2 => LcK vs σw te k σ2 H2)
    (hd : ∀ D H1, H D = none → Ext H H1 → H1 D = some (.lst ((List.range xs.length).map f)) → Q (.ref D) H1) : rLc (Itl K ad) g tYes te vs σ H Q :=
  lcP (walk_list (xs := xs)) hn f (fun H1 e => SqL.of (e.look ha)) (fun _ _ _ _ h => yat_ext h) (fun i x H1 H1' k _ e hy hk => by obtain ⟨rfl, hx⟩ := hy; exact hs i x H1' k hx e hk) hd
theorem lcPT {ad : Addr} {xs : List V} [a : WipeS σ vs σw] (ha : H ad = some (.tup xs)) (hn : xs.length ≤ 1000000) (f : Nat → V)
    (hs : ∀ i x H1 (k : VK), xs[i]? = some x → Ext H H1 → (∀ H2, Ext H1 H2 → k (f i) H2) → g x σw H1 fun σ2 H2 => LcK vs σw te k σ2 H2)
    (hd : ∀ D H1, H D = none → Ext H H1 → H1 D = some (.lst ((List.range xs.length).map f)) → Q (.ref D) H1) : rLc (Itt K ad) g tYes te vs σ H Q :=
  lcP (walk_tup (xs := xs)) hn f (fun H1 e => SqT.of (e.look ha)) (fun _ _ _ _ h => yat_ext h) (fun i x H1 H1' k _ e hy hk => by obtain ⟨rfl, hx⟩ := hy; exact hs i x H1' k hx e hk) hd
theorem lcPR {lo : Int} [a : WipeS σ vs σw] (hn : n ≤ 1000000) (f : Nat → V)
    (hs : ∀ (i : Nat) H1 (k : VK), i < n → Ext H H1 → (∀ H2, Ext H1 H2 → k (f i) H2) → g (.int (lo + i)) σw H1 fun σ2 H2 => LcK vs σw te k σ2 H2)
    (hd : ∀ D H1, H D = none → Ext H H1 → H1 D = some (.lst ((List.range n).map f)) → Q (.ref D) H1) : rLc (Itr lo n) g tYes te vs σ H Q :=
  lcP walk_range hn f (fun H1 e => trivial) (fun _ _ _ _ h => yfn_ext h) (fun i x H1 H1' k hi e hy hk => by obtain ⟨rfl, rfl⟩ := hy; exact hs i H1' k hi e hk) hd
theorem lcPR0 [a : WipeS σ vs σw] (hn : n ≤ 1000000) (f : Nat → V)
    (hs : ∀ (i : Nat) H1 (k : VK), i < n → Ext H H1 → (∀ H2, Ext H1 H2 → k (f i) H2) → g (.int (i : Int)) σw H1 fun σ2 H2 => LcK vs σw te k σ2 H2)
    (hd : ∀ D H1, H D = none → Ext H H1 → H1 D = some (.lst ((List.range n).map f)) → Q (.ref D) H1) : rLc (Itr 0 n) g tYes te vs σ H Q :=
  lcPR hn f (fun i H1 k hi e hk => by rw [Int.zero_add]; exact hs i H1 k hi e hk) hd
/-- [e for x in ..], the heap changing at p alone, of which S holds; R of each item -/
theorem lcB (w : Walk J n G Y) [a : WipeS σ vs σw] (hn : n ≤ 1000000) {p : Addr} {ps : List V} (hp : H p = some (.lst ps)) (S : Hp → Prop) (R : Nat → V → Prop) (h0 : S H) (hSm : ∀ H1 H2 D, But p H H1 → S H1 → H D = none → D ≠ p → But D H1 H2 → S H2) (hG : ∀ H1, But p H H1 → S H1 → G H1) (hY : ∀ i H1 x H1', Y i H1 x H1' → Ext H1 H1')
    (hs : ∀ i x H1 H1' (k : VK), i < n → But p H H1 → S H1 → Y i H1 x H1' → (∀ y H2, But p H1' H2 → S H2 → R i y → k y H2) → g x σw H1' fun σ2 H2 => LcK vs σw te k σ2 H2)
    (hd : ∀ D ys H1, H D = none → But p H H1 → S H1 → H1 D = some (.lst ys) → ys.length = n → (∀ i y, ys[i]? = some y → R i y) → Q (.ref D) H1) : rLc J g tYes te vs σ H Q := by
  have nD : ∀ D, H D = none → D ≠ p := fun D hD => Ne.symm (ne_of_none hp hD)
  intro D hD
  refine lc_it w (Pv := fun i H1 => LcAtW D i (fun i acc H1 => But p H H1 ∧ S H1 ∧ acc.length = i ∧ ∀ j y, acc[j]? = some y → R j y) H1) ⟨[], upd_same, Nat.le_refl _, (Ext.new hD).but, hSm H _ D But.rfl h0 hD (nD D hD) But.upd, rfl, fun j y h => by simp at h⟩ ?_ ?_ ?_
  · rintro i H1 hi ⟨acc, ha, hl, hb, hS, _⟩
    exact hG H1 hb hS
  · rintro i x H1 H1' hi ⟨acc, ha, hl, hb, hS, he, hr⟩ hy
    rw [a.h]
    refine hs i x H1 H1' _ hi hb hS hy fun y H2 b2 s2 r2 => ?_
    have e1 := hY i H1 x H1' hy
    refine v_accK (D := D) (j := i + 1) (b2.look (nD D hD) (e1.look ha)) (by omega) (by omega) fun H3 b3 => ?_
    have bb : But p H H2 := (hb.exts e1).trans b2
    refine ⟨fun q o nq z => b3 q o (ne_of_none z hD) (bb q o nq z), hSm H2 H3 D bb s2 hD (nD D hD) b3, by simp; omega, fun j z hz => ?_⟩
    by_cases hj : j < acc.length
    · rw [List.getElem?_append_left hj] at hz
      exact hr j z hz
    · rw [List.getElem?_append_right (by omega)] at hz
      have : j - acc.length = 0 := by
        cases hjj : j - acc.length with
        | zero => rfl
        | succ m => rw [hjj] at hz; simp at hz
      rw [this] at hz
      obtain rfl : y = z := by simpa using hz
      rw [show j = i by omega]
      exact r2
  · rintro H1 ⟨acc, ha, hl, hb, hS, he, hr⟩
    exact hd D acc H1 hD hb hS ha he hr
end
end GG

/-! GC: C.m(..) of the text: static methods with **kw, classmethods, class constants; walks over a dict's keys. -/
namespace GG
open PySem PySem.Spec L2 PyProof.Rows
/-! ### a def with **kw, called with keywords -/
theorem push_upd {h : Heap} {o : Obj} {f : Obj → Obj} : (h.push o).update h.objs.size f = h.push (f o) := by
  obtain ⟨objs, l⟩ := h
  show (⟨(objs.push o).modify objs.size f, l⟩ : Heap) = ⟨objs.push (f o), l⟩
  congr 1
  apply Array.ext
  · simp
  · intro i h1 h2
    rw [Array.getElem_modify]
    by_cases e : objs.size = i
    · subst e
      simp
    · rw [if_neg e]
      rw [Array.getElem_push, Array.getElem_push]
      have : i < objs.size := by
        simp at h2
        omega
      rw [dif_pos this, dif_pos this]
theorem set_push {M : Model} {A : Around} {E : Value → Shared → Prop} {s : Shared} {h : Heap} {es : List DictEntry} {n : Nat} {k : Str} {v : Value} {Q : Unit → Shared → Prop} (hh : s.heap = h.push (PySem.W.dictOf es n))
    (hs : ∀ e ∈ es, e.key.isStr k = false) (hr : ∀ e ∈ es, e.refKey = false)
    (q : Q () { s with heap := h.push (PySem.W.dictOf (es ++ [⟨PyData.keyHash M.w.params k, .str k s.toks, v⟩]) (n + 1)), toks := s.toks + 1 }) : wpAny M A (nsSet h.objs.size k v) Q E s := by
  have e1 : es.any (·.key.isStr k) = false := by
    cases z : es.any (·.key.isStr k) with
    | false => rfl
    | true => obtain ⟨e, he, y⟩ := List.any_eq_true.mp z; rw [hs e he] at y; cases y
  have e2 : es.any (·.refKey) = false := by
    cases z : es.any (·.refKey) with
    | false => rfl
    | true => obtain ⟨e, he, y⟩ := List.any_eq_true.mp z; rw [hr e he] at y; cases y
  have e : Obj.putName k (PyData.keyHash M.w.params k) (.str k s.toks) v (PySem.W.dictOf es n) = PySem.W.dictOf (es ++ [⟨PyData.keyHash M.w.params k, .str k s.toks, v⟩]) (n + 1) := by
    rw [PySem.W.putName_dict, PySem.W.putL_new hs]
    show PySem.W.dictOf _ (if es.any (·.key.isStr k) then n else n + 1) = _
    rw [e1, if_neg Bool.false_ne_true]
  have D : s.heap.get? h.objs.size = some (PySem.W.dictOf es n) := by rw [hh]; exact Heap.get?_push_size _ rfl
  have c : aRefKeyMayBeTheName k es.toArray = false := by
    rw [aRefKeyMayBeTheName_at, ← Array.any_toList, ← Array.any_toList]
    show (!es.any (·.key.isStr k) && es.any (·.refKey)) = false
    rw [e2, Bool.and_false]
  unfold nsSet
  refine wpAny_bind (wpAny_bind (wpAny_askSetting (wpAny_pure (wpAny_bind (wpAny_mkText (wpAny_bind (wpAny_loadPart D ?_)))))))
  dsimp only
  rw [c]
  refine wpAny_updatePart D ?_
  show Q () { s with heap := s.heap.update h.objs.size _, toks := s.toks + 1 }
  rw [hh, push_upd]
  show Q () { s with heap := h.push (Obj.putName k (PyData.keyHash M.w.params k) (.str k s.toks) v (PySem.W.dictOf es n)), toks := s.toks + 1 }
  rw [e]
  exact q
theorem fill_push {M : Model} {A : Around} {E : Value → Shared → Prop} {h : Heap} {Q : PUnit → Shared → Prop} : ∀ (ex : List (Str × Value)) (s : Shared) (es : List DictEntry) (n : Nat), s.heap = h.push (PySem.W.dictOf es n) →
    (∀ e ∈ es, ∀ x ∈ ex, e.key.isStr x.1 = false) → (∀ e ∈ es, e.refKey = false) → (ex.map (·.1)).Nodup →
    Q ⟨⟩ { s with heap := h.push (PySem.W.dictOf (es ++ PySem.W.kwEs M.w.params s.toks ex) (n + ex.length)), toks := s.toks + ex.length } →
    wpAny M A (forIn ex PUnit.unit fun x _ => (nsSet h.objs.size x.1 x.2 >>= fun _ => pure (ForInStep.yield PUnit.unit))) Q E s
  | [], s, es, n, hh, _, _, _, q => by
    rw [List.forIn_nil]
    refine wpAny_pure ?_
    have e : ({ s with heap := h.push (PySem.W.dictOf (es ++ PySem.W.kwEs M.w.params s.toks []) (n + ([] : List (Str × Value)).length)), toks := s.toks + ([] : List (Str × Value)).length } : Shared) = s := by
      show ({ s with heap := h.push (PySem.W.dictOf (es ++ []) n) } : Shared) = s
      rw [List.append_nil, ← hh]
    rw [e] at q
    exact q
  | x :: r, s, es, n, hh, hs, hr, hn, q => by
    obtain ⟨hn1, hn2⟩ := List.nodup_cons.mp (show (x.1 :: r.map (·.1)).Nodup from hn)
    rw [List.forIn_cons]
    refine wpAny_bind (wpAny_bind (set_push hh (fun e he => hs e he x (.head _)) hr (wpAny_pure ?_)))
    refine fill_push (h := h) r _ _ _ rfl (fun e he y hy => ?_) (fun e he => ?_) hn2 ?_
    · rcases List.mem_append.mp he with he | he
      · exact hs e he y (.tail _ hy)
      · obtain rfl := List.mem_singleton.mp he
        show (x.1 == y.1) = false
        exact beq_eq_false_iff_ne.mpr fun z => hn1 (by rw [z]; exact List.mem_map_of_mem hy)
    · rcases List.mem_append.mp he with he | he
      · exact hr e he
      · obtain rfl := List.mem_singleton.mp he
        rfl
    · have t1 : s.toks + 1 + r.length = s.toks + (r.length + 1) := by omega
      have t2 : n + 1 + r.length = n + (r.length + 1) := by omega
      show Q ⟨⟩ { s with heap := h.push (PySem.W.dictOf ((es ++ [_]) ++ PySem.W.kwEs M.w.params (s.toks + 1) r) (n + 1 + r.length)), toks := s.toks + 1 + r.length }
      rw [t1, t2, List.append_assoc]
      exact q
/-- the keywords as a dict's pairs -/
def kwD (ks : List Str) (zs : List V) : List (Key × V) := (ks.map Sum.inr).zip zs
theorem kwD_rel : ∀ {ks : List Str} {zs : List V} {ws : List Value}, Vals zs ws → KV (kwD ks zs) ((ks.map (Sum.inr : Str → Key)).zip ws)
  | [], _, _, _ => .nil
  | k :: ks, _, _, .nil => .nil
  | k :: ks, _, _, .cons a r => .cons ⟨rfl, a⟩ (kwD_rel (ks := ks) r)
theorem kw_pairs {P : Program} {w : World} : ∀ (ks : List Str) (ws : List Value) (t : Tok), Pairs (mixKind P w) (PySem.W.kwEs w.params t (ks.zip ws)) ((ks.map (Sum.inr : Str → Key)).zip ws)
  | [], _, _ => .nil
  | k :: ks, [], _ => .nil
  | k :: ks, u :: ws, t => Pairs.cons (keyIs_str k t) rfl (kw_pairs ks ws (t + 1))
theorem kw_nodup : ∀ {ks : List Str} {ws : List Value}, ks.Nodup → (((ks.map (Sum.inr : Str → Key)).zip ws).map (·.1)).Nodup
  | [], _, _ => List.nodup_nil
  | k :: ks, [], _ => List.nodup_nil
  | k :: ks, u :: ws, h => by
    obtain ⟨h1, h2⟩ := List.nodup_cons.mp h
    refine List.nodup_cons.mpr ⟨fun hm => ?_, kw_nodup h2⟩
    obtain ⟨p, hp, e⟩ := List.mem_map.mp hm
    obtain ⟨y, hy, e2⟩ := List.mem_map.mp (List.of_mem_zip hp).1
    have e3 : y = k := Sum.inr.inj (e2.trans e)
    exact h1 (e3 ▸ hy)
theorem kw_nodupS : ∀ {ks : List Str} {ws : List Value}, ks.Nodup → ((ks.zip ws).map (·.1)).Nodup
  | [], _, _ => List.nodup_nil
  | k :: ks, [], _ => List.nodup_nil
  | k :: ks, u :: ws, h => by
    obtain ⟨h1, h2⟩ := List.nodup_cons.mp h
    refine List.nodup_cons.mpr ⟨fun hm => ?_, kw_nodupS h2⟩
    obtain ⟨p, hp, e⟩ := List.mem_map.mp hm
    have e2 : p.1 = k := e
    have := (List.of_mem_zip hp).1
    rw [e2] at this
    exact h1 this
theorem kw_dict {P : Program} {w : World} {h : Heap} {ks : List Str} {ws : List Value} {t : Tok} {n : Nat} (hn : ks.Nodup) : (h.push (PySem.W.dictOf (PySem.W.kwEs w.params t (ks.zip ws)) n)).DictOf (mixKind P w) h.objs.size ((ks.map (Sum.inr : Str → Key)).zip ws) := by
  refine ⟨_, (PySem.W.kwEs w.params t (ks.zip ws)).toArray, n, Heap.get?_push_size _ rfl, ⟨rfl, rfl, rfl⟩, rfl, fun e he => ?_, kw_pairs ks ws t, kw_nodup hn⟩
  obtain ⟨k, u, hk, hh⟩ := PySem.W.kwEs_key (ks.zip ws) t e (List.mem_toArray.mp he)
  exact ⟨.inr k, by rw [hk]; exact keyIs_str k u, hh.trans rfl⟩
/-- a def with **kw, called with n values and the keywords ks -/
def FnKw (P : Program) (w : World) (K : PySem.W.Frag) (mg : Str → Option Value) (base : Heap) (k : Nat) (f : Addr) (n : Nat) (ks : List Str) (sp : Sp) : Prop :=
  ∀ (A : Around) (outer : List Env) (s : Shared) (H : Hp) (us ws : List Value) (vs zs : List V) (Q : VK) (E : XK), Room k A → Env0 P w K mg base A outer s H → Vals vs us → Vals zs ws → vs.length = n → zs.length = ks.length →
    (∀ d o, H d = Option.none → sp (vs ++ [V.ref d]) (upd H d (.frz o (.dK (kwD ks zs)))) Q E) → codeAny (model P w) A (.call (.ref f) ⟨us, ks.zip ws⟩) (CR (L2N.CX P w) outer P w H s Q E) s
section
variable {P : Program} {w : World} {K : PySem.W.Frag} {mg : Str → Option Value} {base : Heap} {k : Nat} {f : Addr} {name qual : Str} {params : Arguments} {body : List Stmt} {scope : Scope} {dV kV doc pm cdv ct oc : Value} {an od : Option Addr}
  {osl : Array (Option Value)} {N ps : List Str} {sp : Sp}
theorem fn_kw {pd : Str} {ks : List Str} (hn : ks.Nodup) (hz : ks.length ≤ sizeLine) (lk : K.lookup f = some ⟨oc, od, .func (PySem.W.fnOf name qual params body scope dV kV doc pm an cdv ct), osl⟩) (hcd : PySem.W.codeIn K cdv qual = true) (S : FnScope N (ps ++ [pd]) scope)
    (hb : ∀ us ws : List Value, us.length = ps.length → ws.length = ks.length → bindArgs (PySem.W.fnOf name qual params body scope dV kV doc pm an cdv ct) ⟨us, ks.zip ws⟩ =
      ((alloc (PySem.W.dictOf [] 0) : Sem Addr) >>= fun D => (forIn (ks.zip ws) PUnit.unit fun x _ => (nsSet D x.1 x.2 >>= fun _ => pure (ForInStep.yield PUnit.unit))) >>= fun _ => pure (ps.zip us ++ [(pd, Value.ref D)])))
    (hbody : ∀ (A : Around) (outer : List Env) (s : Shared) (H : Hp) (vs : List V) (Q : VK) (E : XK), Room k (A.deeper (envOfC qual scope s.heap.objs.size f cdv)) → sp vs H Q E →
      ∃ t, PSs (cxOf (L2N.CX P w) P w K mg base N qual scope f cdv A outer s H E) body t ∧ t { nx := fun _ H' => Q .non H', rt := Q } (start N vs) H) :
    FnKw P w K mg base (k + 1) f ps.length ks sp := by
  intro A outer s H us ws vs zs Q E hr e0 r rz hl1 hl2 hq
  have hl1' : us.length = ps.length := by rw [← r.length]; exact hl1
  have hl2' : ws.length = ks.length := by rw [← rz.length]; exact hl2
  have hn0 : H s.heap.objs.size = Option.none := e0.hok.fresh (Nat.le_refl _)
  refine StX.run_bnd lk hcd S hr e0 (G := fun xs H2 => ∃ d o, H d = Option.none ∧ xs = vs ++ [V.ref d] ∧ H2 = upd H d (.frz o (.dK (kwD ks zs)))) (fun A' Ex Q' h => ?_) fun s2 H2 xs ⟨p, o, hp, ex, eH⟩ hr' => ?_
  · rw [hb us ws hl1' hl2']
    refine wpAny_bind (wpAny_alloc (wpAny_bind (fill_push (h := s.heap) (ks.zip ws) _ [] 0 rfl (fun _ he => nomatch he) (fun _ he => nomatch he) (kw_nodupS hn) (wpAny_pure ?_))))
    have new : ObjOk P w (upd H s.heap.objs.size (.frz (PySem.W.dictOf ([] ++ PySem.W.kwEs w.params s.toks (ks.zip ws)) (0 + (ks.zip ws).length)) (.dK (kwD ks zs)))) (s.heap.push (PySem.W.dictOf ([] ++ PySem.W.kwEs w.params s.toks (ks.zip ws)) (0 + (ks.zip ws).length))) s.heap.objs.size (.frz (PySem.W.dictOf ([] ++ PySem.W.kwEs w.params s.toks (ks.zip ws)) (0 + (ks.zip ws).length)) (.dK (kwD ks zs))) := by
      refine ⟨Heap.get?_push_size _ rfl, ?_, beq_eq_false_iff_ne.mpr (Ne.symm (Nat.ne_of_lt (StX.env0_big e0))), _, kwD_rel rz, ?_⟩
      · unfold kwD
        rw [List.length_zip, List.length_map]
        omega
      · exact kw_dict hn
    have un := StX.un_laid (fs := frs outer) (s := s) (o := PySem.W.dictOf ([] ++ PySem.W.kwEs w.params s.toks (ks.zip ws)) (0 + (ks.zip ws).length)) (u := .frz (PySem.W.dictOf ([] ++ PySem.W.kwEs w.params s.toks (ks.zip ws)) (0 + (ks.zip ws).length)) (.dK (kwD ks zs))) hn0
    have e1 := StX.env0_laid e0 new
    have e2 : Env0 P w K mg base A outer { s with heap := s.heap.push (PySem.W.dictOf ([] ++ PySem.W.kwEs w.params s.toks (ks.zip ws)) (0 + (ks.zip ws).length)), toks := s.toks + (ks.zip ws).length } _ := ⟨e1.frames, e1.mod, e1.bs, e1.bsz, e1.funs, e1.frf, e1.hok, e1.bare⟩
    have z := h _ _ (vs ++ [V.ref s.heap.objs.size]) (us ++ [Value.ref s.heap.objs.size]) e2 un rfl (fun e s' => cxUpN outer s H _ _ E e s' un (fun b o q => Heap.get?_push_of_some _ q) rfl) (r.append (.cons rfl .nil))
      (by rw [List.length_append, List.length_append, hl1] <;> rfl) ⟨_, _, hn0, rfl, rfl⟩
    rw [List.zip_append hl1'.symm] at z
    exact z
  · subst ex eH
    exact hbody A outer s2 _ _ Q E hr' (hq p o hp)
end
theorem Fun.okKw {P : Program} {w : World} {K : PySem.W.Frag} {mg : Str → Option Value} {base : Heap} {x qual : Str} {st : Stmt} {f : Addr} {fd : FuncData} {N ps : List Str} {pd : Str} {k : Nat} {sp : Sp} (KSS : List (List Str)) (F : Fun K x qual st f fd) (S : FnScope N (ps ++ [pd]) (defScope st)) (hk : ∀ ks ∈ KSS, ks.Nodup ∧ ks.length ≤ sizeLine)
    (hb : ∀ ks ∈ KSS, ∀ (kV doc pm : Value) (an : Option Addr) (cdv ct : Value) (us ws : List Value), us.length = ps.length → ws.length = ks.length → bindArgs (PySem.W.fnOf x qual (defArgs st) (defBody st) (defScope st) .none kV doc pm an cdv ct) ⟨us, ks.zip ws⟩ =
      ((alloc (PySem.W.dictOf [] 0) : Sem Addr) >>= fun D => (forIn (ks.zip ws) PUnit.unit fun x _ => (nsSet D x.1 x.2 >>= fun _ => pure (ForInStep.yield PUnit.unit))) >>= fun _ => pure (ps.zip us ++ [(pd, Value.ref D)])))
    (hbody : ∀ (cdv : Value) (A : Around) (outer : List Env) (s : Shared) (H : Hp) (vs : List V) (Q : VK) (E : XK), Room k (A.deeper (envOfC qual (defScope st) s.heap.objs.size f cdv)) → sp vs H Q E →
      ∃ t, PSs (cxOf (L2N.CX P w) P w K mg base N qual (defScope st) f cdv A outer s H E) (defBody st) t ∧ t { nx := fun _ H' => Q .non H', rt := Q } (start N vs) H) : ∀ ks ∈ KSS, FnKw P w K mg base (k + 1) f ps.length ks sp := by
  obtain ⟨oc, od, kV, doc, pm, an, cdv, ct, osl, rfl, lk, hcd⟩ := F.ex
  intro ks hm
  exact fn_kw (hk ks hm).1 (hk ks hm).2 lk hcd S (fun us ws => hb ks hm kV doc pm an cdv ct us ws) fun A outer s H vs Q E hr hsp => hbody cdv A outer s H vs Q E hr hsp
/-- the class at C has the static method m, with **kw -/
structure Sk (P : Program) (w : World) (K : PySem.W.Frag) (mg : Str → Option Value) (base : Heap) (C : Addr) (m : Str) (k n : Nat) (KSS : List (List Str)) (sp : Sp) : Prop where
  ex : ∃ f p mc rest, ClX.CRead K C mc ∧ PySem.W.findCls K (.ref C) mc m = some (.get (.builtin "staticmethod.__get__") (.ref p) .none (.ref C)) ∧ PySem.W.recIn K p "staticmethod" = some (.ref f :: rest) ∧ PySem.W.keepIn K (.ref f) = true ∧ ∀ ks ∈ KSS, FnKw P w K mg base k f n ks sp
def rCls (C : Addr) (x : V) (P : Prop) : Prop := x = .ref C ∧ P
def rSk (n : Nat) (ks : List Str) (sp : Sp) (E : XK) (vs zs : List V) (H : Hp) (Q : VK) : Prop := vs.length = n ∧ zs.length = ks.length ∧ ∀ d o, H d = Option.none → sp (vs ++ [V.ref d]) (upd H d (.frz o (.dK (kwD ks zs)))) Q E
def tSk (C : Addr) (n : Nat) (ks : List Str) (sp : Sp) (E : L2.St → XK) (ta : TE) (t tk : TA) : TE := fun σ H Q => ta σ H fun x H1 => rCls C x (t σ H1 fun vs H2 => tk σ H2 fun zs H3 => rSk n ks sp (E σ) vs zs H3 Q)
section
variable {X : Cx} {k n : Nat} {C : Addr} {sp : Sp} {E : L2.St → XK} {m : Str} {KSS : List (List Str)} {ks : List Str} {o e : Expr} {es : List Expr} {kws : List Keyword} {pos apos : Pos} {ta : TE} {t tk : TA} {pl : Sem Bool}
theorem pe_sk (F : Sk X.prog X.w X.K X.mg X.base C m k n KSS sp) (hr : Room k X.A) (hx : Ps X E) (he : PE X o ta) (ha : PA X (e :: es) t) (hkw : PK X kws tk) (hin : ks ∈ KSS) (hall : (backToKw pos (keywordEach kws X.env)).all (·.1.isSome) = true := by rfl) (hks : (backToKw pos (keywordEach kws X.env)).filterMap (·.1) = ks := by rfl)
    (hst : starEach (e :: es) X.env = (false, eval e X.env) :: starEach es X.env := by rfl)
    (hpl : ((backTo pos (starEach (e :: es) X.env)).any (·.1) || (backToKw pos (keywordEach kws X.env)).any (·.1.isNone)) = false := by rfl)
    (ht : eval (.Call (.Attribute o m apos) (e :: es) kws pos) X.env = (do
      let ov ← eval o X.env
      standAt apos.atName
      let (f, first) ← holding [ov] (getMethod ov m pl)
      callWith pos f first (backTo pos (starEach (e :: es) X.env)) (backToKw pos (keywordEach kws X.env))) := by rfl) :
    PE X (.Call (.Attribute o m apos) (e :: es) kws pos) (tSk C n ks sp E ta t tk) := by
  obtain ⟨f, p, mc, rest, rd, hf, hp, hk, F⟩ := F.ex
  refine ⟨fun pins s σ H Q I h => ?_⟩
  refine PySem.W.methodCall_KW (pl := pl) (thn (he.run pins s σ H _ I h) fun u s1 ⟨x, H1, I1, rx, ex, q⟩ => ?_) ht
  subst ex
  obtain rfl : u = Value.ref C := rx
  refine PySem.W.method_cls I1.kIn rd.ga (PySem.W.cls_bind I1.kIn rd.rd hf (wpAny_call (PySem.W.sm_get (s := { s1 with toks := s1.toks + 1 }) I1.kIn hp (PySem.W.handed_on rfl ?_))))
  have I1' : L2.Inv X pins σ H1 { s1 with toks := s1.toks + 1 } := I1.tok _
  refine PySem.W.callWith_KW (first := []) (h₀ := X.base) I1.ok.mod.kin hk hall (thn (ha.run pos pins _ σ H1 _ I1' q) fun us s2 ⟨vs, H2, I2, r, q⟩ => ?_) hpl hst
  refine thn (hkw.run pos pins s2 σ H2 _ I2 q) fun ws s3 ⟨zs, H3, I3, rz, l1, l2, q2⟩ => ⟨I3.kIn, ?_⟩
  rw [hks]
  refine wpAny_call (codeAny_mono (F ks hin X.A X.stack s3 H3 us ws vs zs Q (E σ) hr I3.env0 r rz l1 l2 q2) fun r s' hq => ?_)
  cases r with
  | error e => exact hx σ pins H3 s3 e s' I3 hq
  | ok fl =>
    cases fl with
    | ret u => exact I3.after hq
    | next => exact False.elim hq
    | brk => exact False.elim hq
    | cont => exact False.elim hq
end
/-! ### classmethods, constants of a class -/
/-- the class at C has the classmethod m -/
structure Cm (P : Program) (w : World) (K : PySem.W.Frag) (mg : Str → Option Value) (base : Heap) (C : Addr) (m : Str) (k : Nat) (ps : List Str) (sp : Sp) : Prop where
  ex : ∃ f fd p mc, FnOk P w K mg base (L2N.CX P w) k f fd ps sp ∧ L2.Binds K fd ps [] ∧ ClX.CRead K C mc ∧ ClX.CMet K C mc m p f
def tCmS (C : Addr) (sp : Sp) (E : L2.St → XK) (ta : TE) (t : TA) : TE := fun σ H Q => ta σ H fun x H1 => rCls C x (t σ H1 fun vs H2 => sp (.ref C :: vs) H2 Q (E σ))
section
variable {X : Cx} {k : Nat} {C : Addr} {ps : List Str} {sp : Sp} {E : L2.St → XK} {m : Str} {o e : Expr} {es : List Expr} {pos apos : Pos} {ta : TE} {t : TA} {pl : Sem Bool}
theorem pe_cm (F : Cm X.prog X.w X.K X.mg X.base C m k ps sp) (hr : Room k X.A) (hx : Ps X E) (he : PE X o ta) (ha : PA X (e :: es) t)
    (hst : starEach (e :: es) X.env = (false, eval e X.env) :: starEach es X.env := by rfl) (hpl : (backTo pos (starEach es X.env)).any (·.1) = false := by rfl)
    (ht : eval (.Call (.Attribute o m apos) (e :: es) [] pos) X.env = (do
      let ov ← eval o X.env
      standAt apos.atName
      let (f, first) ← holding [ov] (getMethod ov m pl)
      callWith pos f first (backTo pos (starEach (e :: es) X.env)) (backToKw pos (keywordEach [] X.env))) := by rfl) :
    PE X (.Call (.Attribute o m apos) (e :: es) [] pos) (tCmS C sp E ta t) := by
  obtain ⟨f, fd, p, mc, F, hb, rd, c⟩ := F.ex
  refine ⟨fun pins s σ H Q I h => ?_⟩
  refine PySem.W.methodCall_KW (pl := pl) (thn (he.run pins s σ H _ I h) fun u s1 ⟨x, H1, I1, rx, ex, q⟩ => ?_) ht
  subst ex
  obtain rfl : u = Value.ref C := rx
  refine ClX.getmethcm_ok I1 rd c fun s2 I2 => ?_
  refine ClX.callwith_cm I2 (ClX.base_none I1 (Nat.le_refl _)) c.fi (thn (ha.run pos _ s2 σ H1 _ I2 q) fun us s3 ⟨vs, H2, I3, rv, q2⟩ => ⟨⟨ClX.pin_at I3, I3.kIn⟩, ?_⟩) hst hpl
  have r2 : Vals (.ref C :: vs) (.ref C :: us) := .cons rfl rv
  have hl : (Value.ref C :: us).length = ps.length := by rw [← r2.length]; exact F.len _ _ _ _ q2
  refine wpAny_call (PySem.W.method_call (ClX.pin_at I3) (codeAny_mono (F.run X.A X.stack s3 H2 ⟨.ref C :: us, []⟩ (.ref C :: us) (.ref C :: vs) Q (E σ) hr I3.env0 (by have := hb s3 (.ref C :: us) I3.kIn (by rw [List.append_nil]; exact hl); rw [List.append_nil] at this; exact this) r2 q2) fun r s' hq => ?_))
  cases r with
  | error e => exact hx σ _ H2 s3 e s' I3 hq
  | ok fl =>
    cases fl with
    | ret u => exact ClX.unpinE (I3.after hq)
    | next => exact False.elim hq
    | brk => exact False.elim hq
    | cont => exact False.elim hq
end
/-! ### C.x, a constant of the class, an object that the top has laid -/
theorem un1 {A : Around} (h : A.units + 64 < cLine) : A.units + 1 < cLine := by omega
/-! ### readings -/
def rKeys (x : V) (H : Hp) (R : It → Hp → Prop) : Prop := ∃ d o, x = .ref d ∧ ((∃ kvs, H d = some (.frz o (.dK kvs)) ∧ R (Itk d o kvs) H) ∨ ∃ kvs, H d = some (.frz o (.dT kvs)) ∧ R (Itkt d o kvs) H)
def rIsD (a : V) (H : Hp) (P : Addr → Prop) : Prop := ∃ d, a = .ref d ∧ IsD H d ∧ P d
def rGet2 (d : Addr) (y z : V) (H : Hp) (Q : VK) : Prop := ∃ o, DGet H d y o ∧ Q (o.getD z) H
section
variable {K : PySem.W.Frag} {σ : L2.St} {H : Hp} {Q : VK} {sp : Sp} {E : L2.St → XK} {C d : Addr} {ta td ty tx te : TE} {t tk : TA} {n : Nat} {ks : List Str} {P0 : Prop} {kvs : List (Key × V)} {o : Obj} {z : V} {x : Str}
instance i_sk : St1 (tSk C n ks sp E ta t tk σ H Q) (ta σ H fun x H1 => rCls C x (t σ H1 fun vs H2 => tk σ H2 fun zs H3 => rSk n ks sp (E σ) vs zs H3 Q)) := ⟨fun h => h⟩
instance i_rcls : St1 (rCls C (.ref C) P0) P0 := ⟨fun h => ⟨rfl, h⟩⟩
instance i_cmS : St1 (tCmS C sp E ta t σ H Q) (ta σ H fun x H1 => rCls C x (t σ H1 fun vs H2 => sp (.ref C :: vs) H2 Q (E σ))) := ⟨fun h => h⟩
theorem v_sk {vs zs : List V} {E : XK} (h1 : vs.length = n) (h2 : zs.length = ks.length) (h : ∀ d o H2, H d = Option.none → Ext H H2 → H2 d = some (.frz o (.dK (kwD ks zs))) → sp (vs ++ [V.ref d]) H2 Q E) : rSk n ks sp E vs zs H Q :=
  ⟨h1, h2, fun d o hd => h d o _ hd (Ext.new hd) upd_same⟩
instance i_keys {R : It → Hp → Prop} : St1 (iKeys te σ H R) (te σ H fun x H1 => rKeys x H1 R) := ⟨fun h => h⟩
theorem v_keys {R : It → Hp → Prop} (hd : H d = some (.frz o (.dK kvs))) (q : R (Itk d o kvs) H) : rKeys (.ref d) H R := ⟨d, o, rfl, .inl ⟨kvs, hd, q⟩⟩
instance i_dget2 : St1 (tDGet2 td ty tx σ H Q) (td σ H fun x H1 => rIsD x H1 fun a => ty σ H1 fun y H2 => tx σ H2 fun z H3 => rGet2 a y z H3 Q) := ⟨fun h => h⟩
theorem v_isD {P : Addr → Prop} (hd : H d = some (.frz o (.dK kvs))) (q : P d) : rIsD (.ref d) H P := ⟨d, rfl, .inl ⟨kvs, .inr ⟨o, hd⟩⟩, q⟩
theorem v_get2 (hd : H d = some (.frz o (.dK kvs))) (q : Q ((valV kvs (.inr x : Key)).getD z) H) : rGet2 d (.str x) z H Q := ⟨_, .inl ⟨kvs, .inr x, .inr ⟨o, hd⟩, rfl, rfl⟩, q⟩
end
end GG

/-! GE: for i, c in enumerate(text). -/
namespace GG
open PySem PySem.Spec L2 PyProof.Rows
/-- a text's signs, each in a new pair with its place -/
def Itx (z : Str) : It :=
  ⟨fun i _ => i < z.cps.size, fun i H v H' => ∃ T c, v = .ref T ∧ H T = none ∧ z.cps[i]? = some c ∧ H' = upd H T (.tup [.int (i : Nat), .str ⟨#[c]⟩]), fun i _ => i = z.cps.size⟩
theorem turn_enumS {P : Program} {w : World} {K : PySem.W.Frag} {elts : List Expr} {kk : Nat} {tpos : Pos} (z : Str) (t : Tok) (e it : Addr) :
    Turn P w K (.Tuple elts kk tpos) (Itx z) [e, it] e (fun i h => (∃ old, IsEnum h e it ((i : Nat) : Int) old) ∧ h.IsStrIter it (strIterType z) z t i ∧ e ≠ it) where
  mem := by simp
  obj := fun i h st b hb => by
    obtain ⟨⟨old, he⟩, ⟨ob, g1, g2, g3⟩, _⟩ := st
    rcases (show b = e ∨ b = it by simpa using hb) with y | y
    · rw [y]; exact ⟨_, he, fun v q => nomatch q⟩
    · rw [y]; exact ⟨ob, g1, fun v q => by rw [g3] at q; cases q⟩
  keep := fun i h h' st k => let ⟨⟨old, he⟩, ⟨ob, g1, g2⟩, hne⟩ := st; ⟨⟨old, k e (by simp) _ he⟩, ⟨ob, k it (by simp) _ g1, g2⟩, hne⟩
  item := by
    intro X hP hw hK hc i pins s σ H E I hf st hg
    subst hP hw hK
    obtain ⟨⟨old, he⟩, hit, hne⟩ := st
    have hel : e < s.heap.objs.size := Heap.lt_size he
    have hil : it < s.heap.objs.size := by obtain ⟨_, q, _⟩ := hit; exact Heap.lt_size q
    have D := Draws.text (prog := X.prog) (w := X.w) (A := X.A.in1) (I.ok.hd hc) it z t
    refine wpAny_pyNext_enum_itemD D he hit hg hne (by simpa using hne) fun x h' tk px ho hit' hT hsz hk => ?_
    obtain ⟨ch, tu, hch, rfl⟩ := px
    refine ⟨_, rfl, wpAny_letOwnedTupleGo_enum (s := { s with heap := h', toks := tk + 1 }) ho fun h'' he' sb => ?_⟩
    have hT2 : h''.get? s.heap.objs.size = some { cls := .type "tuple", data := .seq #[.int i tk, .str ⟨#[ch]⟩ tu] } := (sb.2 _ (Nat.ne_of_gt hel)).trans hT
    have new : ObjOk X.prog X.w (upd H s.heap.objs.size (.tup [.int (i : Nat), .str ⟨#[ch]⟩])) h'' s.heap.objs.size (.tup [.int (i : Nat), .str ⟨#[ch]⟩]) :=
      ⟨by show 2 ≤ sizeLine; decide, [.int i tk, .str ⟨#[ch]⟩ tu], .cons ⟨_, rfl⟩ (.cons ⟨_, rfl⟩ .nil), ⟨_, hT2, rfl, _, rfl⟩⟩
    have I1 : L2.Inv X pins σ (upd H s.heap.objs.size (.tup [.int (i : Nat), .str ⟨#[ch]⟩])) { s with heap := h'', toks := tk + 1 } :=
      I.turnedNew (ch := [e, it]) (fun b ob hb q => (sb.2 b (fun y => hb (by simp [y]))).trans (hk b ob (fun y => hb (by simp [y])) (fun y => hb (by simp [y])) q)) hf (Nat.le_refl _) new
    refine ⟨.ref s.heap.objs.size, _, I1, rfl, ⟨_, ch, rfl, I.hok.fresh (Nat.le_refl _), hch, rfl⟩, ⟨⟨.str ⟨#[ch]⟩ tu, ?_⟩, (let ⟨ob, g1, g2⟩ := hit'; ⟨ob, (sb.2 it (Ne.symm hne)).trans g1, g2⟩), hne⟩, fun b hb => ?_⟩
    · rw [show ((i + 1 : Nat) : Int) = (i : Int) + 1 by omega]; exact he'
    · have hb' : b < s.heap.objs.size := by
        rcases (show b = e ∨ b = it by simpa using hb) with y | y
        · rw [y]; exact hel
        · rw [y]; exact hil
      rw [upd_ne (Nat.ne_of_lt hb')]
      exact (hf b hb).1
  done := by
    intro X hP hw hK hc i pins s σ H E I hf st hg
    subst hP hw hK
    obtain ⟨⟨old, he⟩, hit, hne⟩ := st
    obtain ⟨f0, f1, f2, f3, f4, f5⟩ := hf it (by simp)
    have hg' : i = z.cps.size := hg
    subst hg'
    have D := Draws.text (prog := X.prog) (w := X.w) (A := X.A.in1) (I.ok.hd hc) it z t
    exact wpAny_pyNext_enum_endD D he hit fun h' eb => ⟨rfl, I.turned (t' := s.toks) (fun b o hb q => eb b o hb q) f0 f1 f3 f4 f5⟩
  self := fun A i s Q E st h => let ⟨⟨_, he⟩, _⟩ := st; wpAny_pyIter_enum he h
def iEnumS (ta : TA) : TI := fun σ H R => ta σ H fun vs H1 => ∃ z, vs = [.str z] ∧ R (Itx z) H1
theorem pi_enumS {X : Cx} {e : Expr} {ta : TA} {p pos tpos : Pos} {elts : List Expr} {kk : Nat} (hg : Gl X "enumerate") (hm : X.mg "enumerate" = none) (ha : PA X [e] ta) (hs : starEach [e] X.env = [(false, eval e X.env)] := by rfl) :
    PI X (.Tuple elts kk tpos) (.Call (.Name "enumerate" p) [e] [] pos) (iEnumS ta) := by
  refine ⟨fun pins s σ H R I h => ?_⟩
  refine Call_ (ld_blt I hg hm boot_enumerate (PyProof.Rows.callWith_type1 (thn (ha.run pos pins s σ H _ I h) fun us s1 ⟨vs, H1, I1, r1, q1⟩ => ?_) hs rfl))
  obtain ⟨z, ex, q⟩ := q1
  subst ex
  obtain ⟨u, rfl, ru⟩ := vals1 r1
  obtain ⟨t, rfl⟩ := (show ∃ t, u = Value.str z t from ru)
  refine call_enumerate_str fun h' he hit hsz hk => wpAny_pyIter_enum he ?_
  have I2 : L2.Inv X pins σ H1 { s1 with heap := h' } := I1.kept (t' := s1.toks) hk
  refine ⟨s1.heap.objs.size + 1, [s1.heap.objs.size + 1, s1.heap.objs.size], _, _, H1, rfl, I2, turn_enumS z t (s1.heap.objs.size + 1) s1.heap.objs.size, ⟨⟨.none, he⟩, hit, Nat.succ_ne_self _⟩, fun b hb => ?_, q⟩
  have hle : s1.heap.objs.size ≤ b := by
    rcases (show b = s1.heap.objs.size + 1 ∨ b = s1.heap.objs.size by simpa using hb) with y | y
    · rw [y]; exact Nat.le_add_right _ _
    · rw [y]; exact Nat.le_refl _
  exact I1.fpOk hle (I1.hok.fresh hle)
theorem walk_enumS {z : Str} : Walk (Itx z) z.cps.size (fun _ => True) (fun i H v H' => ∃ T c, v = .ref T ∧ H T = none ∧ z.cps[i]? = some c ∧ H' = upd H T (.tup [.int (i : Nat), .str ⟨#[c]⟩])) :=
  ⟨fun _ _ hi _ => hi, fun _ _ => rfl, fun _ _ _ _ _ _ y => y⟩
def rEnS (vs : List V) (H : Hp) (R : It → Hp → Prop) : Prop := ∃ z, vs = [.str z] ∧ R (Itx z) H
instance i_enumS {ta : TA} {σ : L2.St} {H : Hp} {R : It → Hp → Prop} : St1 (iEnumS ta σ H R) (ta σ H fun vs H1 => rEnS vs H1 R) := ⟨fun h => h⟩
instance j_enumS {z : Str} {H : Hp} {R : It → Hp → Prop} : St1 (rEnS [.str z] H R) (R (Itx z) H) := ⟨fun h => ⟨z, rfl, h⟩⟩
end GG

/-! GN: notes, their texts, the reader as a machine (pure). -/
namespace GN
open PySem PySem.NumText
/-! ### the digits of a number -/
def dig (m : Nat) : List Nat := (Nat.toDigits 10 m).map Char.toNat
def itx (i : Int) : List Nat := if i < 0 then 45 :: dig i.natAbs else dig i.natAbs
theorem dig_val (m : Nat) : digitsVal (dig m) = m := PySem.W.KIN.val_back m
theorem dig_all (m : Nat) : AllDigits (dig m) := by
  intro c hc
  obtain ⟨ch, hch, e⟩ := List.mem_map.mp hc
  have h := Nat.isDigit_of_mem_toDigits (b := 10) (by decide) (by decide) hch
  rw [← e]
  simp only [Char.isDigit, Bool.and_eq_true, decide_eq_true_eq] at h
  exact ⟨h.1, h.2⟩
theorem dig_small {m : Nat} (h : m < 10) : dig m = [48 + m] := by
  unfold dig
  rw [Nat.toDigits_of_lt_base h]
  have : ∀ d : Nat, d < 10 → (Nat.digitChar d).toNat = 48 + d := by decide
  show [(Nat.digitChar m).toNat] = _
  rw [this m h]
theorem dig_big {m : Nat} (h : 10 ≤ m) : dig m = dig (m / 10) ++ [48 + m % 10] := by
  have hm : m % 10 < 10 := Nat.mod_lt m (by decide)
  have t : Nat.toDigits 10 (m / 10) ++ Nat.toDigits 10 (m % 10) = Nat.toDigits 10 (10 * (m / 10) + m % 10) := Nat.toDigits_append_toDigits (by decide) (by omega) hm
  rw [Nat.div_add_mod] at t
  have e2 := dig_small hm
  unfold dig at *
  rw [← t, List.map_append, e2]
theorem dig_head : ∀ (m : Nat), 1 ≤ m → ∃ d ds, dig m = d :: ds ∧ 49 ≤ d ∧ d ≤ 57 := by
  intro m
  induction m using Nat.strongRecOn with
  | _ m ih =>
    intro h
    by_cases hm : m < 10
    · exact ⟨48 + m, [], dig_small hm, by omega, by omega⟩
    · obtain ⟨d, ds, e, h1, h2⟩ := ih (m / 10) (by omega) (by omega)
      exact ⟨d, ds ++ [48 + m % 10], by rw [dig_big (by omega), e]; rfl, h1, h2⟩
theorem dig_zero : dig 0 = [48] := dig_small (by decide)
theorem dig_len : ∀ (k m : Nat), m < 10 ^ k → 1 ≤ k → (dig m).length ≤ k := by
  intro k
  induction k with
  | zero => intro m _ h; exact absurd h (by decide)
  | succ k ih =>
    intro m h _
    by_cases hm : m < 10
    · rw [dig_small hm]; exact Nat.succ_le_succ (Nat.zero_le _)
    · rw [dig_big (by omega), List.length_append]
      have hk : 1 ≤ k := by
        cases k with
        | zero => simp at h; omega
        | succ k => omega
      have := ih (m / 10) (by rw [Nat.pow_succ] at h; omega) hk
      simp
      omega
/-! ### signs -/
def letter (c : Nat) : Bool := decide (97 ≤ c) && decide (c ≤ 122)
def digit (c : Nat) : Bool := decide (48 ≤ c) && decide (c ≤ 57)
def wordc (c : Nat) : Bool := letter c || digit c || c == 45 || c == 58
def firstc (c : Nat) : Bool := letter c || digit c || c == 45
/-! ### notes -/
inductive Nt where
  | non | wd (l : List Nat) | int (i : Int) | tup (xs : List Nt)
def joinL (S : List Nat) : List (List Nat) → List Nat
  | [] => []
  | [p] => p
  | p :: q :: r => p ++ (S ++ joinL S (q :: r))
mutual
def wr : Nt → List Nat
  | .non => [45]
  | .wd l => l
  | .int i => itx i
  | .tup xs => 40 :: (joinL [32] (wrs xs) ++ [41])
def wrs : List Nt → List (List Nat)
  | [] => []
  | x :: xs => wr x :: wrs xs
end
mutual
def depth : Nt → Nat
  | .tup xs => depths xs + 1
  | .non | .wd _ | .int _ => 0
def depths : List Nt → Nat
  | [] => 0
  | x :: xs => max (depth x) (depths xs)
end
def Word (l : List Nat) : Prop := ∃ c cs, l = c :: cs ∧ letter c = true ∧ (∀ d ∈ cs, wordc d = true) ∧ l.length ≤ 24
mutual
def Ok : Nt → Prop
  | .non => True
  | .wd l => Word l
  | .int i => i.natAbs < 10 ^ 200
  | .tup xs => Oks xs
def Oks : List Nt → Prop
  | [] => True
  | x :: xs => Ok x ∧ Oks xs
end
/-! ### the reader -/
inductive La where
  | start | token | item | space | bracket
deriving DecidableEq
structure Rd where
  cur : List Nt
  out : List (List Nt)
  tok : List Nat
  last : La
def bare (t : List Nat) : List Nat := match t with
  | 45 :: ds => ds
  | ds => ds
def goes (t : List Nat) (c : Nat) : Bool := if letter (t.headD 0) then wordc c && decide (t.length < 24) else if t = [45] then digit c && !decide (c = 48) else if t = [48] then false else digit c && decide ((bare t).length < 200)
def tval (t : List Nat) : Int := match t with
  | 45 :: ds => -((digitsVal ds : Nat) : Int)
  | ds => ((digitsVal ds : Nat) : Int)
def tnote (t : List Nat) : Nt := if t = [45] then .non else if letter (t.headD 0) then .wd t else .int (tval t)
def close (s : Rd) : Rd := match s.out with
  | [] => { s with cur := [.tup s.cur], out := [], last := .item }
  | r :: rs => { s with cur := r ++ [.tup s.cur], out := rs, last := .item }
def flush (s : Rd) : Rd := if s.last = .token then { s with cur := s.cur ++ [tnote s.tok] } else s
def open_ (l : La) : Bool := decide (l = .start) || decide (l = .bracket) || decide (l = .space)
def step (s : Rd) (c : Nat) : Option Rd :=
  if s.last = .token ∧ goes s.tok c = true then some { s with tok := s.tok ++ [c] }
  else if (s.last = .token ∨ s.last = .item) ∧ s.out ≠ [] ∧ (c = 32 ∨ c = 41) then
    some (if c = 41 then close (flush s) else { flush s with last := .space })
  else if s.last = .bracket ∧ c = 41 then some (close s)
  else if open_ s.last = true ∧ c = 40 ∧ s.out.length + 1 ≤ 100 then some { s with cur := [], out := s.cur :: s.out, last := .bracket }
  else if open_ s.last = true ∧ firstc c = true then some { s with tok := [c], last := .token }
  else none
def run (s : Rd) : List Nat → Option Rd
  | [] => some s
  | c :: cs => (step s c).bind fun s' => run s' cs
theorem run_append (s : Rd) (xs ys : List Nat) : run s (xs ++ ys) = (run s xs).bind fun s' => run s' ys := by
  induction xs generalizing s with
  | nil => rfl
  | cons c cs ih =>
    show (step s c).bind (fun s' => run s' (cs ++ ys)) = ((step s c).bind fun s' => run s' cs).bind _
    cases h : step s c with
    | none => rfl
    | some s' => exact ih s'
/-! ### a token -/
theorem run_go {s : Rd} (hl : s.last = .token) : ∀ (cs : List Nat), (∀ a b, cs = a ++ b → b ≠ [] → goes (s.tok ++ a) (b.headD 0) = true) → run s cs = some { s with tok := s.tok ++ cs } := by
  intro cs
  induction cs generalizing s with
  | nil => intro _; simp [run]
  | cons c cs ih =>
    intro h
    have h0 := h [] (c :: cs) rfl (by simp)
    rw [List.append_nil] at h0
    have e : step s c = some { s with tok := s.tok ++ [c] } := by
      unfold step
      rw [if_pos ⟨hl, h0⟩]
    show (step s c).bind _ = _
    rw [e]
    show run _ cs = _
    rw [ih (s := { s with tok := s.tok ++ [c] }) hl (fun a b hab hb => by
      have := h (c :: a) b (by rw [hab]; rfl) hb
      show goes (s.tok ++ [c] ++ a) _ = true
      rw [List.append_assoc]
      exact this)]
    simp
theorem step_first {s : Rd} {c : Nat} (ho : open_ s.last = true) (hc : firstc c = true) : step s c = some { s with tok := [c], last := .token } := by
  have n1 : ¬ s.last = .token := fun z => by rw [z] at ho; exact absurd ho (by decide)
  have n2 : ¬ s.last = .item := fun z => by rw [z] at ho; exact absurd ho (by decide)
  have n3 : ¬ c = 41 := fun z => by rw [z] at hc; exact absurd hc (by decide)
  have n4 : ¬ c = 40 := fun z => by rw [z] at hc; exact absurd hc (by decide)
  unfold step
  rw [if_neg (fun z => n1 z.1), if_neg (fun z => z.1.elim n1 n2), if_neg (fun z => n3 z.2), if_neg (fun z => n4 z.2.1), if_pos ⟨ho, hc⟩]
/-- the texts of items as tokens -/
structure Tok (t : List Nat) (n : Nt) : Prop where
  ne : ∃ c cs, t = c :: cs ∧ firstc c = true ∧ ∀ a b, cs = a ++ b → b ≠ [] → goes ([c] ++ a) (b.headD 0) = true
  note : tnote t = n
  stop : goes t 32 = false ∧ goes t 41 = false
theorem goes_stop (t : List Nat) : goes t 32 = false ∧ goes t 41 = false := by
  constructor
  · unfold goes
    split
    · rfl
    · split
      · rfl
      · split
        · rfl
        · rfl
  · unfold goes
    split
    · rfl
    · split
      · rfl
      · split
        · rfl
        · rfl
theorem letter_first {c : Nat} (h : letter c = true) : firstc c = true := by unfold firstc; rw [h]; rfl
theorem digit_first {c : Nat} (h : digit c = true) : firstc c = true := by unfold firstc; rw [h]; simp
theorem digit_not_letter {c : Nat} (h : digit c = true) : letter c = false := by
  unfold digit at h
  unfold letter
  simp at h ⊢
  omega
theorem split_headD {α : Type} {cs a b : List α} {d : α} (h : cs = a ++ b) (hb : b ≠ []) : b.headD d ∈ cs ∧ a.length < cs.length := by
  cases b with
  | nil => exact absurd rfl hb
  | cons x b => subst h; simp
theorem tok_word {l : List Nat} (h : Word l) : Tok l (.wd l) := by
  obtain ⟨c, cs, rfl, hc, hw, hl⟩ := h
  refine ⟨⟨c, cs, rfl, letter_first hc, fun a b hab hb => ?_⟩, ?_, goes_stop _⟩
  · obtain ⟨h1, h2⟩ := split_headD (d := 0) hab hb
    unfold goes
    rw [if_pos (show letter (([c] ++ a).headD 0) = true from hc), hw _ h1]
    simp at hl ⊢
    omega
  · unfold tnote
    rw [if_neg (fun z => by injection z with z _; rw [z] at hc; exact absurd hc (by decide)), if_pos (show letter ((c :: cs).headD 0) = true from hc)]
theorem tok_non : Tok [45] .non := ⟨⟨45, [], rfl, rfl, fun a b hab hb => by
    cases a with
    | nil => exact absurd hab.symm hb
    | cons _ _ => simp at hab⟩, rfl, goes_stop _⟩
theorem all_digit {cs : List Nat} (h : AllDigits cs) {c : Nat} (hc : c ∈ cs) : digit c = true := by
  have := h c hc
  unfold digit
  simp
  omega
theorem tok_nat {m : Nat} (h : m < 10 ^ 200) : Tok (dig m) (.int m) := by
  by_cases h0 : m = 0
  · subst h0
    rw [dig_zero]
    refine ⟨⟨48, [], rfl, rfl, fun a b hab hb => ?_⟩, rfl, goes_stop _⟩
    cases a with
    | nil => exact absurd hab.symm hb
    | cons _ _ => simp at hab
  · obtain ⟨d, ds, e, h1, h2⟩ := dig_head m (by omega)
    have hl := dig_len 200 m h (by decide)
    have ha := dig_all m
    have hv := dig_val m
    rw [e] at hl ha hv ⊢
    have hd : digit d = true := by unfold digit; simp; omega
    have nl := digit_not_letter hd
    refine ⟨⟨d, ds, rfl, digit_first hd, fun a b hab hb => ?_⟩, ?_, goes_stop _⟩
    · obtain ⟨m1, m2⟩ := split_headD (d := 0) hab hb
      unfold goes
      rw [if_neg (by show ¬ letter d = true; rw [nl]; exact Bool.false_ne_true), if_neg (fun z => by simp at z; omega), if_neg (fun z => by simp at z; omega), all_digit ha (List.mem_cons_of_mem _ m1)]
      have hb' : bare ([d] ++ a) = d :: a := by
        unfold bare
        show (match d :: a with | 45 :: ds => ds | ds => ds) = _
        split
        · rename_i q; injection q with q _; omega
        · rfl
      rw [hb']
      simp at hl ⊢
      omega
    · unfold tnote
      rw [if_neg (fun z => by simp at z; omega), if_neg (by show ¬ letter d = true; rw [nl]; exact Bool.false_ne_true)]
      unfold tval
      split
      · rename_i q; injection q with q _; omega
      · rw [hv]
theorem tok_neg {m : Nat} (h : m < 10 ^ 200) (h0 : m ≠ 0) : Tok (45 :: dig m) (.int (-(m : Int))) := by
  obtain ⟨d, ds, e, h1, h2⟩ := dig_head m (by omega)
  have hl := dig_len 200 m h (by decide)
  have ha := dig_all m
  have hv := dig_val m
  refine ⟨⟨45, dig m, rfl, rfl, fun a b hab hb => ?_⟩, ?_, goes_stop _⟩
  · obtain ⟨m1, m2⟩ := split_headD (d := 0) hab hb
    have hdg := all_digit ha m1
    unfold goes
    rw [if_neg (by show ¬ letter 45 = true; decide)]
    cases a with
    | nil =>
      have hb' : b = d :: ds := by rw [← e, hab]; rfl
      rw [if_pos (show [45] ++ [] = [45] from rfl), hdg, hb']
      simp
      omega
    | cons x a =>
      rw [if_neg (fun z => by simp at z), if_neg (fun z => by simp at z), hdg]
      have hb' : bare ([45] ++ x :: a) = x :: a := rfl
      rw [hb']
      simp at m2 hl ⊢
      omega
  · unfold tnote
    rw [if_neg (fun z => by rw [e] at z; simp at z), if_neg (by show ¬ letter 45 = true; decide)]
    show Nt.int (-((digitsVal (dig m) : Nat) : Int)) = _
    rw [hv]
theorem tok_int {i : Int} (h : i.natAbs < 10 ^ 200) : Tok (itx i) (.int i) := by
  unfold itx
  by_cases hi : i < 0
  · rw [if_pos hi]
    have := tok_neg h (by omega)
    rwa [show -((i.natAbs : Nat) : Int) = i by omega] at this
  · rw [if_neg hi]
    have := tok_nat h
    rwa [show ((i.natAbs : Nat) : Int) = i by omega] at this
/-! ### what is read of a note's text -/
def AftL (s : Rd) (xs : List Nt) (s' : Rd) : Prop := (s'.last = .token ∨ s'.last = .item) ∧ s'.out = s.out ∧ (flush s').cur = s.cur ++ xs
theorem flush_out (s : Rd) : (flush s).out = s.out := by unfold flush; split <;> rfl
theorem step_close {s : Rd} (hl : s.last = .token ∨ s.last = .item) (ho : s.out ≠ []) : step s 41 = some (close (flush s)) := by
  unfold step
  rw [if_neg (fun z => by rw [(goes_stop s.tok).2] at z; exact absurd z.2 Bool.false_ne_true), if_pos ⟨hl, ho, .inr rfl⟩, if_pos rfl]
theorem step_space {s : Rd} (hl : s.last = .token ∨ s.last = .item) (ho : s.out ≠ []) : step s 32 = some { flush s with last := .space } := by
  unfold step
  rw [if_neg (fun z => by rw [(goes_stop s.tok).1] at z; exact absurd z.2 Bool.false_ne_true), if_pos ⟨hl, ho, .inl rfl⟩, if_neg (by decide)]
theorem step_open {s : Rd} (hl : open_ s.last = true) (ho : s.out.length + 1 ≤ 100) : step s 40 = some { s with cur := [], out := s.cur :: s.out, last := .bracket } := by
  have n1 : ¬ s.last = .token := fun z => by rw [z] at hl; exact absurd hl (by decide)
  have n2 : ¬ s.last = .item := fun z => by rw [z] at hl; exact absurd hl (by decide)
  unfold step
  rw [if_neg (fun z => n1 z.1), if_neg (fun z => z.1.elim n1 n2), if_neg (fun z => absurd z.2 (by decide)), if_pos ⟨hl, rfl, ho⟩]
theorem read_tok {t : List Nat} {n : Nt} (h : Tok t n) {s : Rd} (hl : open_ s.last = true) : ∃ s', run s t = some s' ∧ AftL s [n] s' := by
  obtain ⟨⟨c, cs, rfl, hc, hg⟩, hn, _⟩ := h
  have e := step_first hl hc
  refine ⟨{ s with tok := c :: cs, last := .token }, ?_, .inl rfl, rfl, ?_⟩
  · show (step s c).bind _ = _
    rw [e]
    show run _ cs = _
    rw [run_go (s := { s with tok := [c], last := .token }) rfl cs hg]
    rfl
  · unfold flush
    rw [if_pos rfl]
    show s.cur ++ [tnote (c :: cs)] = _
    rw [hn]
theorem aft_step {s s2 : Rd} {xs : List Nt} (h : AftL s xs s2) (ho : s.out ≠ []) : step s2 32 = some { flush s2 with last := .space } ∧ ({ flush s2 with last := .space } : Rd).cur = s.cur ++ xs ∧ ({ flush s2 with last := .space } : Rd).out = s.out := by
  obtain ⟨h1, h2, h3⟩ := h
  exact ⟨step_space h1 (by rw [h2]; exact ho), h3, by show (flush s2).out = _; rw [flush_out, h2]⟩
theorem run_cons {s s1 : Rd} {c : Nat} {cs : List Nat} (h : step s c = some s1) : run s (c :: cs) = run s1 cs := by
  show (step s c).bind _ = _
  rw [h]
  rfl
mutual
theorem read_nt : ∀ (n : Nt) (s : Rd), Ok n → open_ s.last = true → s.out.length + depth n ≤ 100 → ∃ s', run s (wr n) = some s' ∧ AftL s [n] s'
  | .non, s, _, hl, _ => read_tok tok_non hl
  | .wd l, s, h, hl, _ => read_tok (tok_word h) hl
  | .int i, s, h, hl, _ => read_tok (tok_int h) hl
  | .tup xs, s, h, hl, hd => by
    have hd' : s.out.length + (depths xs + 1) ≤ 100 := hd
    have e1 := step_open hl (by omega)
    show ∃ s', run s (40 :: (joinL [32] (wrs xs) ++ [41])) = some s' ∧ _
    rw [run_cons e1, run_append]
    obtain ⟨s2, r2, h2⟩ := read_list xs { s with cur := [], out := s.cur :: s.out, last := .bracket } h rfl (by simp) (by simp; omega)
    rw [r2]
    rcases h2 with ⟨rfl, h2⟩ | h2
    · subst h2
      have e3 : step { s with cur := [], out := s.cur :: s.out, last := .bracket } 41 = some { s with cur := s.cur ++ [.tup []], out := s.out, last := .item } := by
        unfold step
        rw [if_neg (fun z => nomatch z.1), if_neg (fun z => z.1.elim (fun q => nomatch q) (fun q => nomatch q)), if_pos ⟨rfl, rfl⟩]
        rfl
      exact ⟨_, run_cons e3, .inr rfl, rfl, rfl⟩
    · obtain ⟨a1, a2, a3⟩ := h2
      have e3 := step_close a1 (by rw [a2]; simp)
      have ho : (flush s2).out = s.cur :: s.out := by rw [flush_out, a2]
      have ec : close (flush s2) = { flush s2 with cur := s.cur ++ [.tup (flush s2).cur], out := s.out, last := .item } := by unfold close; rw [ho]
      refine ⟨_, run_cons e3, ?_⟩
      rw [ec]
      refine ⟨.inr rfl, rfl, ?_⟩
      unfold flush
      rw [if_neg (show ¬ La.item = La.token by decide)]
      show s.cur ++ [.tup (flush s2).cur] = _
      rw [a3]
      rfl
theorem read_list : ∀ (xs : List Nt) (s : Rd), Oks xs → open_ s.last = true → s.out ≠ [] → s.out.length + depths xs ≤ 100 → ∃ s', run s (joinL [32] (wrs xs)) = some s' ∧ ((xs = [] ∧ s' = s) ∨ AftL s xs s')
  | [], s, _, _, _, _ => ⟨s, rfl, .inl ⟨rfl, rfl⟩⟩
  | [x], s, h, hl, ho, hd => by
    have hd' : s.out.length + max (depth x) 0 ≤ 100 := hd
    obtain ⟨s1, r1, h1⟩ := read_nt x s h.1 hl (by omega)
    exact ⟨s1, r1, .inr h1⟩
  | x :: y :: r, s, h, hl, ho, hd => by
    have hd' : s.out.length + max (depth x) (depths (y :: r)) ≤ 100 := hd
    obtain ⟨s1, r1, h1⟩ := read_nt x s h.1 hl (by omega)
    obtain ⟨e2, c2, o2⟩ := aft_step h1 ho
    show ∃ s', run s (wr x ++ ([32] ++ joinL [32] (wrs (y :: r)))) = some s' ∧ _
    rw [run_append, r1]
    show ∃ s', run s1 (32 :: joinL [32] (wrs (y :: r))) = some s' ∧ _
    rw [run_cons e2]
    obtain ⟨s3, r3, h3⟩ := read_list (y :: r) { flush s1 with last := .space } h.2 rfl (by rw [o2]; exact ho) (by rw [o2]; omega)
    refine ⟨s3, r3, .inr ?_⟩
    rcases h3 with ⟨q, _⟩ | ⟨a1, a2, a3⟩
    · cases q
    · refine ⟨a1, by rw [a2, o2], ?_⟩
      rw [a3, c2]
      simp
end
def start : Rd := ⟨[], [], [], .start⟩
theorem read_all {n : Nt} (h : Ok n) (hd : depth n ≤ 100) : ∃ s, run start (wr n) = some s ∧ (flush s).cur = [n] ∧ s.out = [] := by
  obtain ⟨s, r, h1, h2, h3⟩ := read_nt n start h rfl (by show 0 + depth n ≤ 100; omega)
  exact ⟨s, r, h3, h2⟩
/-! ### what holds at each sign -/
def TokOk (t : List Nat) : Prop := ∃ c cs, t = c :: cs ∧ ((letter c = true ∧ t.length ≤ 24 ∧ ∀ d ∈ cs, wordc d = true) ∨ (c = 45 ∧ AllDigits cs ∧ cs.length ≤ 200) ∨ (digit c = true ∧ AllDigits cs ∧ t.length ≤ 200))
structure Inv (i : Nat) (s : Rd) : Prop where
  tok : s.last = .token → TokOk s.tok
  len : s.tok.length ≤ 201
  cur : s.cur.length ≤ i
  rows : ∀ r ∈ s.out, r.length ≤ i
  dep : s.out.length ≤ 100
  br : s.last = .bracket → s.out ≠ []
theorem inv_start : Inv 0 start := ⟨fun z => (nomatch z), by decide, by decide, fun r hr => (nomatch hr), by decide, fun z => (nomatch z)⟩
theorem TokOk.len {t : List Nat} (h : TokOk t) : t.length ≤ 201 := by
  obtain ⟨c, cs, rfl, h | h | h⟩ := h
  · have := h.2.1; omega
  · have := h.2.2; simp; omega
  · have := h.2.2; omega
theorem digit_all {c : Nat} (h : digit c = true) : 48 ≤ c ∧ c ≤ 57 := by
  unfold digit at h
  simp at h
  exact h
theorem tok_go {t : List Nat} {c : Nat} (h : TokOk t) (hg : goes t c = true) : TokOk (t ++ [c]) := by
  obtain ⟨d, ds, rfl, h⟩ := h
  refine ⟨d, ds ++ [c], rfl, ?_⟩
  unfold goes at hg
  rcases h with ⟨h1, h2, h3⟩ | ⟨rfl, h2, h3⟩ | ⟨h1, h2, h3⟩
  · rw [if_pos (show letter ((d :: ds).headD 0) = true from h1)] at hg
    simp at hg
    refine .inl ⟨h1, by simp at h2 ⊢; omega, fun e he => ?_⟩
    rcases List.mem_append.mp he with q | q
    · exact h3 e q
    · rw [List.mem_singleton.mp q]; exact hg.1
  · rw [if_neg (by show ¬ letter 45 = true; decide)] at hg
    refine .inr (.inl ⟨rfl, ?_, ?_⟩)
    · intro e he
      rcases List.mem_append.mp he with q | q
      · exact h2 e q
      · rw [List.mem_singleton.mp q]
        split at hg
        · simp at hg; exact digit_all hg.1
        · split at hg
          · cases hg
          · simp at hg; exact digit_all hg.1
    · split at hg
      · rename_i q; simp at q; rw [q]; simp
      · split at hg
        · cases hg
        · have hb : bare (45 :: ds) = ds := rfl
          rw [hb] at hg
          simp at hg ⊢
          omega
  · have nl := digit_not_letter h1
    have hd := digit_all h1
    rw [if_neg (by show ¬ letter d = true; rw [nl]; exact Bool.false_ne_true), if_neg (fun q => by injection q with q _; omega)] at hg
    split at hg
    · cases hg
    · have hb : bare (d :: ds) = d :: ds := by
        unfold bare
        split
        · rename_i q; injection q with q _; omega
        · rfl
      rw [hb] at hg
      simp at hg
      refine .inr (.inr ⟨h1, fun e he => ?_, by simp; omega⟩)
      rcases List.mem_append.mp he with q | q
      · exact h2 e q
      · rw [List.mem_singleton.mp q]; exact digit_all hg.1
theorem tok_one {c : Nat} (h : firstc c = true) : TokOk [c] := by
  refine ⟨c, [], rfl, ?_⟩
  unfold firstc at h
  simp at h
  rcases h with (h | h) | h
  · exact .inl ⟨h, by simp, fun d hd => nomatch hd⟩
  · exact .inr (.inr ⟨h, fun d hd => (nomatch hd), by simp⟩)
  · exact .inr (.inl ⟨h, fun d hd => (nomatch hd), by simp⟩)
theorem inv_close {i : Nat} {s : Rd} (h1 : s.tok.length ≤ 201) (h2 : ∀ r ∈ s.out, r.length ≤ i) (h3 : s.out.length ≤ 100) : Inv (i + 1) (close s) := by
  unfold close
  split
  · exact ⟨fun z => (nomatch z), h1, by simp, fun r hr => (nomatch hr), by simp, fun z => (nomatch z)⟩
  · rename_i r rs he
    rw [he] at h2 h3
    refine ⟨fun z => (nomatch z), h1, ?_, fun q hq => ?_, ?_, fun z => (nomatch z)⟩
    · have := h2 r (List.mem_cons_self ..)
      simp
      omega
    · have := h2 q (List.mem_cons_of_mem _ hq)
      omega
    · simp at h3
      show rs.length ≤ 100
      omega
theorem inv_step {i : Nat} {s s' : Rd} {c : Nat} (h : Inv i s) (hs : step s c = some s') : Inv (i + 1) s' := by
  have rows' : ∀ r ∈ s.out, r.length ≤ i + 1 := fun r hr => Nat.le_succ_of_le (h.rows r hr)
  have hc := h.cur
  have hf : (flush s).cur.length ≤ i + 1 ∧ (flush s).out = s.out ∧ (flush s).tok = s.tok := by
    unfold flush
    split
    · refine ⟨by simp; omega, rfl, rfl⟩
    · exact ⟨by omega, rfl, rfl⟩
  unfold step at hs
  split at hs
  · rename_i q
    cases hs
    have := tok_go (h.tok q.1) q.2
    exact ⟨fun _ => this, this.len, by show s.cur.length ≤ i + 1; omega, rows', h.dep, fun z => by rw [show s.last = .bracket from z] at q; exact nomatch q.1⟩
  · split at hs
    · split at hs
      · cases hs
        exact inv_close (by rw [hf.2.2]; exact h.len) (by rw [hf.2.1]; exact h.rows) (by rw [hf.2.1]; exact h.dep)
      · cases hs
        exact ⟨fun z => (nomatch z), by show (flush s).tok.length ≤ 201; rw [hf.2.2]; exact h.len, hf.1, by show ∀ r ∈ (flush s).out, _; rw [hf.2.1]; exact rows', by show (flush s).out.length ≤ 100; rw [hf.2.1]; exact h.dep, fun z => (nomatch z)⟩
    · split at hs
      · cases hs
        exact inv_close h.len h.rows h.dep
      · split at hs
        · rename_i q
          cases hs
          refine ⟨fun z => (nomatch z), h.len, by simp, fun r hr => ?_, by simp; omega, fun _ => by simp⟩
          rcases List.mem_cons.mp hr with rfl | hr
          · omega
          · exact rows' r hr
        · split at hs
          · rename_i q
            cases hs
            exact ⟨fun _ => tok_one q.2, by simp, by show s.cur.length ≤ i + 1; omega, rows', h.dep, fun z => (nomatch z)⟩
          · cases hs
theorem tok_int_text {t : List Nat} (h : TokOk t) (h1 : t ≠ [45]) (h2 : letter (t.headD 0) = false) : intText? ⟨t.toArray⟩ = some (tval t) := by
  obtain ⟨c, cs, rfl, h | ⟨rfl, h3, h4⟩ | ⟨h3, h4, h5⟩⟩ := h
  · rw [show letter ((c :: cs).headD 0) = letter c from rfl, h.1] at h2
    cases h2
  · exact intText_neg (x := ⟨(45 :: cs).toArray⟩) (by simp) h3 (fun z => h1 (by rw [z])) (by show (45 :: cs).toArray.size ≤ 4300; simp; omega)
  · have hd := digit_all h3
    have e := intText_digits (x := ⟨(c :: cs).toArray⟩) (by
      intro d hd'
      simp at hd'
      rcases hd' with rfl | hd'
      · exact hd
      · exact h4 d hd') (by simp) (by show (c :: cs).toArray.size ≤ 4300; simp at h5 ⊢; omega)
    rw [e]
    unfold tval
    split
    · rename_i q; injection q with q _; omega
    · simp
end GN

/-! GB: texts. -/
namespace GG
open PySem L2 PyProof.Rows
/-- a text by its signs -/
abbrev S (l : List Nat) : Str := ⟨l.toArray⟩
theorem S_app (a b : List Nat) : S a ++ S b = S (a ++ b) := by
  show (⟨a.toArray ++ b.toArray⟩ : Str) = ⟨(a ++ b).toArray⟩
  rw [List.append_toArray]
theorem S_len (a : List Nat) : (S a).length = a.length := by show a.toArray.size = _; simp
theorem S_inj {a b : List Nat} (h : S a = S b) : a = b := by injection h with h; simpa using congrArg Array.toList h
theorem S_eq {a b : List Nat} : decide (S a = S b) = decide (a = b) := dec_congr ⟨S_inj, fun h => by rw [h]⟩
theorem S_cps (a : List Nat) : (S a).cps.toList = a := by show a.toArray.toList = a; simp
theorem S_of (z : Str) : z = S z.cps.toList := by cases z; simp [S]
/-! ### rules -/
def uInX (K : PySem.W.Frag) : R2 := fun x y H Q => rIn K false x y H Q ∨ ∃ (c : Nat) (z : Str), x = .str ⟨#[c]⟩ ∧ y = .str z ∧ Q (.bl (decide (c ∈ z.cps.toList))) H
def uNotinX (K : PySem.W.Frag) : R2 := fun x y H Q => rIn K true x y H Q ∨ ∃ (c : Nat) (z : Str), x = .str ⟨#[c]⟩ ∧ y = .str z ∧ Q (.bl (!decide (c ∈ z.cps.toList))) H
def cInt2 : List V → Hp → VK → Prop := fun xs H Q => cInt xs H Q ∨ ∃ a n, xs = [.str a] ∧ PySem.intText? a = some n ∧ a.length ≤ 640 ∧ Q (.int n) H
def cStr : List V → Hp → VK → Prop := fun xs H Q => (∃ i, xs = [.int i] ∧ i.natAbs.log2 < 1920 ∧ Q (.str (toString i)) H) ∨ ∃ a, xs = [.str a] ∧ Q (.str a) H
def rJoin (K : PySem.W.Frag) : V → List V → Hp → VK → Prop := fun x xs H Q => ∃ a p, ∃ ys : List Str, x = .str a ∧ xs = [.ref p] ∧ (SqL K H p (ys.map V.str) ∨ SqT K H p (ys.map V.str)) ∧ (ys.map (·.length)).sum + ys.length * a.length ≤ 16777216 ∧ Q (.str (Txt.join a ys)) H
def rRemP : V → List V → Hp → VK → Prop := fun x xs H Q => ∃ a b, x = .str a ∧ xs = [.str b] ∧ a.length ≤ sizeLine ∧ Q (.str (Txt.removeprefix a b)) H
section
variable {X : Cx}
theorem u_inX (K : PySem.W.Frag) (hK : X.K = K := by rfl) : OpR X (compareOp .In) (uInX K) := by subst hK; exact op_in_seq.or op_in_sign
theorem u_notinX (K : PySem.W.Frag) (hK : X.K = K := by rfl) : OpR X (compareOp .NotIn) (uNotinX K) := by subst hK; exact op_notIn_seq.or op_notIn_sign
theorem c_int2 : CallR X (.type "int") cInt2 := fun pins s σ H xs us Q I r h => h.elim (fun h => c_int pins s σ H xs us Q I r h) (fun h => call_int_str pins s σ H xs us Q I r h)
theorem c_str : CallR X (.type "str") cStr := fun pins s σ H xs us Q I r h => h.elim (fun h => call_str_int pins s σ H xs us Q I r h) (fun h => SkE.call_str_str pins s σ H xs us Q I r h)
theorem m_join (K : PySem.W.Frag) (hK : X.K = K := by rfl) : MtR X "str.join" (rJoin K) := by subst hK; exact mt_join
theorem m_extend (K : PySem.W.Frag) : MtR X "list.extend" rExtend := mt_extend
theorem m_removeprefix : MtR X "str.removeprefix" rRemP := mt_removeprefix
/-- a text, n times -/
def rRepS : R2 := fun x y H Q => ∃ (l : List Nat) (n : Nat), x = .str (S l) ∧ y = .int (n : Int) ∧ 1 ≤ n ∧ n ≤ 1000 ∧ l.length ≤ 1000 ∧ l ≠ [] ∧ Q (.str (S (List.replicate n l).flatten)) H
def uMulX : R2 := fun x y H Q => uMul x y H Q ∨ rRepS x y H Q
theorem fold_app (l : List Nat) : ∀ (n : Nat) (a : Array Nat), (List.replicate n l.toArray).foldl (· ++ ·) a = (a.toList ++ (List.replicate n l).flatten).toArray
  | 0, a => by simp
  | n + 1, a => by
    rw [List.replicate_succ, List.foldl_cons, fold_app l n, List.replicate_succ, List.flatten_cons]
    simp
theorem op_repS : OpR X (binaryOp .Mult) rRepS := by
  intro pins s σ H x y v u Q I rx ry h
  obtain ⟨l, n, rfl, rfl, h1, h2, h3, h4, q⟩ := h
  obtain ⟨t, rfl⟩ := (show ∃ t, v = Value.str (S l) t from rx)
  obtain ⟨t2, rfl⟩ := (show ∃ t, u = Value.int (n : Int) t from ry)
  have hl : (S l).length = l.length := S_len l
  have hsz : l.length * n ≤ 1000000 := by
    have := Nat.mul_le_mul h3 h2
    omega
  refine PySem.P.mul_str ?_ ?_ ?_ ?_
  · rw [decide_eq_false (by omega), decide_eq_false (by omega)]; rfl
  · intro _ _
    rw [hl]
    have : (1000000 : Int) ≤ (2 ^ 63 - 1) / (n : Int) := by
      rw [Int.le_ediv_iff_mul_le (by omega)]
      have : (n : Int) ≤ 1000 := by omega
      omega
    omega
  · intro _ _
    unfold Builtin.Str.tooLong
    have := sizeLine_eq
    rw [hl]
    simp
    omega
  · rw [if_neg (by omega)]
    split
    · rename_i hh
      have hn : n = 1 := by
        rw [Bool.or_eq_true, hl] at hh
        rcases hh with hh | hh
        · have := beq_iff_eq.mp hh; omega
        · exact absurd (List.eq_nil_of_length_eq_zero (beq_iff_eq.mp hh)) h4
      subst hn
      rw [show (List.replicate 1 l).flatten = l by simp] at q
      exact ⟨.str (S l), H, I, ⟨_, rfl⟩, q⟩
    · rw [show (⟨(List.replicate ((n : Int)).toNat (S l).cps).foldl (· ++ ·) #[]⟩ : Str) = S (List.replicate n l).flatten by
        rw [Int.toNat_natCast]
        show (⟨(List.replicate n l.toArray).foldl (· ++ ·) #[]⟩ : Str) = _
        rw [fold_app]
        simp]
      refine ⟨?_, .str (S (List.replicate n l).flatten), H, I.tok _, ⟨_, rfl⟩, q⟩
      rw [S_len, List.length_flatten]
      have := sizeLine_eq
      simp
      rw [Nat.mul_comm]
      omega
theorem u_mulX : OpR X (binaryOp .Mult) uMulX := u_mul.or op_repS
def uIsN : R2 := fun x y H Q => y = .non ∧ Q (.bl (decide (x = .non))) H
def uNotN : R2 := fun x y H Q => y = .non ∧ Q (.bl (!decide (x = .non))) H
theorem u_isN : OpR X (compareOp .Is) uIsN := op_isN
theorem u_notN : OpR X (compareOp .IsNot) uNotN := op_notN
/-- a constant of the module -/
theorem pe_const {x : Str} {v : V} {pos : Pos} (h : ∃ u, X.mg x = some u ∧ RelV v u) (hg : Gl X x := by rfl) (hd : (x == ("__debug__" : Str)) = false := by decide) : PE X (.Name x pos) (tC v) := by
  obtain ⟨u, hm, r⟩ := h
  exact pe_glob hg hm r hd
end
section
variable {K : PySem.W.Frag} {σ : L2.St} {H : Hp} {Q : VK} {QB : Bool → Hp → Prop} {a p : Addr} {c : Nat} {z x : Str} {i : Int} {xs ys : List V} {v : V} {l m : List Nat} {ss : List Str} {P0 : Prop}
instance j_isN0 : St1 (uIsN .non .non H Q) (Q (.bl true) H) := ⟨fun q => ⟨rfl, q⟩⟩
instance j_isNI : St1 (uIsN (.int i) .non H Q) (Q (.bl false) H) := ⟨fun q => ⟨rfl, q⟩⟩
instance j_isNS : St1 (uIsN (.str x) .non H Q) (Q (.bl false) H) := ⟨fun q => ⟨rfl, q⟩⟩
instance j_isNR : St1 (uIsN (.ref a) .non H Q) (Q (.bl false) H) := ⟨fun q => ⟨rfl, q⟩⟩
instance j_notN0 : St1 (uNotN .non .non H Q) (Q (.bl false) H) := ⟨fun q => ⟨rfl, q⟩⟩
instance j_notNI : St1 (uNotN (.int i) .non H Q) (Q (.bl true) H) := ⟨fun q => ⟨rfl, q⟩⟩
instance j_notNS : St1 (uNotN (.str x) .non H Q) (Q (.bl true) H) := ⟨fun q => ⟨rfl, q⟩⟩
instance j_notNR : St1 (uNotN (.ref a) .non H Q) (Q (.bl true) H) := ⟨fun q => ⟨rfl, q⟩⟩
instance j_isST : St1 (rIsi K [.str x, .ty "tuple"] H Q) (Q (.bl false) H) := ⟨fun q => ⟨.str x, .ty "tuple", .type "str", .type "tuple", false, rfl, .ty _, .base (.str x), kit_ty (by decide +kernel), q⟩⟩
instance j_isIT : St1 (rIsi K [.int i, .ty "tuple"] H Q) (Q (.bl false) H) := ⟨fun q => ⟨.int i, .ty "tuple", .type "int", .type "tuple", false, rfl, .ty _, .base (.int i), kit_ty (by decide +kernel), q⟩⟩
instance j_isNT : St1 (rIsi K [.non, .ty "tuple"] H Q) (Q (.bl false) H) := ⟨fun q => ⟨.non, .ty "tuple", .type "NoneType", .type "tuple", false, rfl, .ty _, .base .non, kit_ty (by decide +kernel), q⟩⟩
instance j_isSS : St1 (rIsi K [.str x, .ty "str"] H Q) (Q (.bl true) H) := ⟨fun q => ⟨.str x, .ty "str", .type "str", .type "str", true, rfl, .ty _, .base (.str x), kit_ty (by decide +kernel), q⟩⟩
instance j_isIS : St1 (rIsi K [.int i, .ty "str"] H Q) (Q (.bl false) H) := ⟨fun q => ⟨.int i, .ty "str", .type "int", .type "str", false, rfl, .ty _, .base (.int i), kit_ty (by decide +kernel), q⟩⟩
theorem v_isTS {zs : List V} (ha : H a = some (.tup zs)) (q : Q (.bl false) H) : rIsi K [.ref a, .ty "str"] H Q := ⟨.ref a, .ty "str", .type "tuple", .type "str", false, rfl, .ty _, .base (.tup ha), kit_ty (by decide +kernel), q⟩
instance i_tyS : St1 (tyV K "str" (.str x) H ∧ P0) P0 := ⟨fun q => ⟨rfl, q⟩⟩
theorem v_inS (q : Q (.bl (decide (c ∈ z.cps.toList))) H) : uInX K (.str ⟨#[c]⟩) (.str z) H Q := .inr ⟨c, z, rfl, rfl, q⟩
theorem v_notinS (q : Q (.bl (!decide (c ∈ z.cps.toList))) H) : uNotinX K (.str ⟨#[c]⟩) (.str z) H Q := .inr ⟨c, z, rfl, rfl, q⟩
theorem inV_strs : ∀ {ss : List Str}, inV (.str x) (ss.map V.str) = decide (x ∈ ss)
  | [] => rfl
  | y :: ss => by
    have ih := inV_strs (ss := ss)
    unfold inV at ih ⊢
    rw [List.map_cons, List.any_cons, ih]
    show (y == x || decide (x ∈ ss)) = _
    rw [Bool.eq_iff_iff, Bool.or_eq_true, beq_iff_eq, decide_eq_true_eq, decide_eq_true_eq, List.mem_cons]
    exact ⟨fun h => h.elim (fun h => .inl h.symm) .inr, fun h => h.elim (fun h => .inl h.symm) .inr⟩
theorem flat_strs : ∀ {ss : List Str}, (ss.map V.str).all flatV = true
  | [] => rfl
  | y :: ss => by rw [List.map_cons, List.all_cons, flat_strs]; rfl
theorem v_inTS (ha : H a = some (.tup (ss.map V.str))) (q : Q (.bl (decide (x ∈ ss))) H) : uInX K (.str x) (.ref a) H Q := .inl ⟨a, _, rfl, .inr (SqT.of ha), rfl, flat_strs, by rw [if_neg Bool.false_ne_true, inV_strs]; exact q⟩
theorem v_intS {n : Int} (h : PySem.intText? x = some n) (hl : x.length ≤ 640) (q : Q (.int n) H) : cInt2 [.str x] H Q := .inr ⟨x, n, rfl, h, hl, q⟩
theorem v_int2 (q : Q (.int i) H) : cInt2 [.int i] H Q := .inl (v_int q)
instance j_int2 : St1 (cInt2 [.int i] H Q) (Q (.int i) H) := ⟨v_int2⟩
theorem v_strI (h : i.natAbs.log2 < 1920) (q : Q (.str (toString i)) H) : cStr [.int i] H Q := .inl ⟨i, rfl, h, q⟩
instance j_strS : St1 (cStr [.str x] H Q) (Q (.str x) H) := ⟨fun q => .inr ⟨x, rfl, q⟩⟩
/-- the last item -/
theorem v_ixLast (ha : H a = some (.lst (xs ++ [v]))) (q : Q v H) : uIx K (.ref a) (.int (-1)) H Q := by
  refine .inl ⟨a, _, -1, v, rfl, rfl, SqL.of ha, ?_, q⟩
  unfold atI ixN
  rw [if_neg (by decide), List.length_append, List.length_singleton]
  rw [if_pos (by omega)]
  show (xs ++ [v])[_]? = some v
  rw [show (-1 + ((xs.length + 1 : Nat) : Int)).toNat = xs.length by omega]
  simp
theorem v_pop (ha : H a = some (.lst (xs ++ [v]))) (q : ∀ H2, But a H H2 → H2 a = some (.lst xs) → Q v H2) : rPop (.ref a) [] H Q := by
  refine ⟨a, _, v, rfl, rfl, ha, by simp, q _ But.upd ?_⟩
  rw [upd_same]
  simp
/-- one sign of a text -/
theorem v_ixS {j : Nat} (hj : (S l).length ≤ sizeLine) (h : l[j]? = some c) (q : Q (.str ⟨#[c]⟩) H) : uIx K (.str (S l)) (.int (j : Int)) H Q := by
  refine .inr (.inr ⟨S l, (j : Int), c, rfl, rfl, hj, ?_, q⟩)
  rw [S_cps]
  exact atI_nat h
theorem v_lenS (h : z.length ≤ sizeLine) (q : Q (.int (z.length : Int)) H) : cLen K [.str z] H Q := ⟨.str z, z.length, rfl, ⟨h, rfl⟩, q⟩
theorem v_remP (h : x.length ≤ sizeLine) (q : Q (.str (Txt.removeprefix x z)) H) : rRemP (.str x) [.str z] H Q := ⟨x, z, rfl, rfl, h, q⟩
theorem v_joinL (ha : H a = some (.lst (ss.map V.str))) (hz : (ss.map (·.length)).sum + ss.length * x.length ≤ 16777216) (q : Q (.str (Txt.join x ss)) H) : rJoin K (.str x) [.ref a] H Q := ⟨x, a, ss, rfl, rfl, .inl (SqL.of ha), hz, q⟩
theorem v_extend {b : Addr} (ha : H a = some (.lst xs)) (hb : H b = some (.lst ys)) (hz : xs.length + ys.length ≤ 1000000) (q : ∀ H2, But a H H2 → H2 a = some (.lst (xs ++ ys)) → Q .non H2) : rExtend (.ref a) [.ref b] H Q :=
  ⟨a, b, xs, ys, rfl, rfl, ha, hb, by have := sizeLine_eq; omega, q _ But.upd upd_same⟩
theorem ty_str : tyV K "str" (.str x) H := by unfold tyV; exact rfl
theorem r_truL (ha : H a = some (.lst xs)) (q : QB (!xs.isEmpty) H) : rTru K (.ref a) H QB := ⟨_, .inl ⟨xs, SqL.of ha, rfl⟩, q⟩
end
end GG

/-! GL: lists of texts: in, ==, index. -/
namespace GG
open PySem L2 PyProof.Rows
theorem eqv_strs : ∀ {ms ns : List Str}, PyData.eqvAll (ms.map PyData.str) (ns.map PyData.str) = decide (ms = ns)
  | [], [] => by simp [PyData.eqvAll]
  | [], n :: ns => by simp [PyData.eqvAll]
  | m :: ms, [] => by simp [PyData.eqvAll]
  | m :: ms, n :: ns => by
    rw [List.map_cons, List.map_cons]
    unfold PyData.eqvAll
    rw [eqv_strs]
    unfold PyData.eqv
    rw [Bool.eq_iff_iff]
    simp
theorem lay_strs : ∀ {ms : List Str}, (∀ m ∈ ms, PyData.strOk m = true) → PyData.canLayAll0 (ms.map PyData.str) = true ∧ PyData.depthAll (ms.map PyData.str) = 0
  | [], _ => ⟨rfl, rfl⟩
  | m :: ms, h => by
    obtain ⟨h1, h2⟩ := lay_strs (ms := ms) fun x hx => h x (.tail _ hx)
    rw [List.map_cons]
    unfold PyData.canLayAll0 PyData.depthAll
    rw [h1, h2]
    refine ⟨?_, rfl⟩
    unfold PyData.canLay0
    rw [h m (.head _)]
    rfl
def rIndexK (K : PySem.W.Frag) : V → List V → Hp → VK → Prop := rIndex K
theorem m_index (K : PySem.W.Frag) {X : Cx} (hK : X.K = K := by rfl) : MtR X "list.index" (rIndexK K) := by subst hK; exact mt_index
section
variable {K : PySem.W.Frag} {H : Hp} {Q : VK} {a b : Addr} {ms ns : List Str} {x : Str}
theorem dp_strs : ∀ {ms : List Str}, DpAll K H (ms.map V.str) (ms.map PyData.str)
  | [] => .nil
  | m :: ms => .cons (.str m) dp_strs
theorem shaped_strs (h : ∀ m ∈ ms, PyData.strOk m = true) : SeqAt.shaped (.list (ms.map PyData.str)) = true := by
  unfold SeqAt.shaped PyData.canLay0 PyData.depth
  rw [(lay_strs h).1, (lay_strs h).2]
  rfl
theorem shaped_strsT (h : ∀ m ∈ ms, PyData.strOk m = true) : SeqAt.shaped (.tuple (ms.map PyData.str)) = true := by
  unfold SeqAt.shaped PyData.canLay0 PyData.depth
  rw [(lay_strs h).1, (lay_strs h).2]
  rfl
theorem v_eqLS (hm : ∀ m ∈ ms, PyData.strOk m = true) (hn : ∀ m ∈ ns, PyData.strOk m = true) (ha : H a = some (.lst (ms.map V.str))) (hb : H b = some (.lst (ns.map V.str))) (q : Q (.bl (decide (ms = ns))) H) : uEq K (.ref a) (.ref b) H Q :=
  .inr ⟨_, _, .lst (SqL.of ha) dp_strs, .lst (SqL.of hb) dp_strs, shaped_strs hm, shaped_strs hn, by unfold PyData.eqv; rw [eqv_strs]; exact q⟩
theorem v_neLS (hm : ∀ m ∈ ms, PyData.strOk m = true) (hn : ∀ m ∈ ns, PyData.strOk m = true) (ha : H a = some (.lst (ms.map V.str))) (hb : H b = some (.lst (ns.map V.str))) (q : Q (.bl (!decide (ms = ns))) H) : uNe K (.ref a) (.ref b) H Q :=
  .inr ⟨_, _, .lst (SqL.of ha) dp_strs, .lst (SqL.of hb) dp_strs, shaped_strs hm, shaped_strs hn, by unfold PyData.eqv; rw [eqv_strs]; exact q⟩
theorem v_eqTS (hm : ∀ m ∈ ms, PyData.strOk m = true) (hn : ∀ m ∈ ns, PyData.strOk m = true) (ha : H a = some (.tup (ms.map V.str))) (hb : H b = some (.tup (ns.map V.str))) (q : Q (.bl (decide (ms = ns))) H) : uEq K (.ref a) (.ref b) H Q :=
  .inr ⟨_, _, .tup (SqT.of ha) dp_strs, .tup (SqT.of hb) dp_strs, shaped_strsT hm, shaped_strsT hn, by unfold PyData.eqv; rw [eqv_strs]; exact q⟩
theorem v_neTS (hm : ∀ m ∈ ms, PyData.strOk m = true) (hn : ∀ m ∈ ns, PyData.strOk m = true) (ha : H a = some (.tup (ms.map V.str))) (hb : H b = some (.tup (ns.map V.str))) (q : Q (.bl (!decide (ms = ns))) H) : uNe K (.ref a) (.ref b) H Q :=
  .inr ⟨_, _, .tup (SqT.of ha) dp_strs, .tup (SqT.of hb) dp_strs, shaped_strsT hm, shaped_strsT hn, by unfold PyData.eqv; rw [eqv_strs]; exact q⟩
theorem v_inLS (ha : H a = some (.lst (ms.map V.str))) (q : Q (.bl (decide (x ∈ ms))) H) : uInX K (.str x) (.ref a) H Q := .inl ⟨a, _, rfl, .inl (SqL.of ha), rfl, flat_strs, by rw [if_neg Bool.false_ne_true, inV_strs]; exact q⟩
theorem v_notinLS (ha : H a = some (.lst (ms.map V.str))) (q : Q (.bl (!decide (x ∈ ms))) H) : uNotinX K (.str x) (.ref a) H Q := .inl ⟨a, _, rfl, .inl (SqL.of ha), rfl, flat_strs, by rw [if_pos rfl, inV_strs]; exact q⟩
theorem v_notinTS (ha : H a = some (.tup (ms.map V.str))) (q : Q (.bl (!decide (x ∈ ms))) H) : uNotinX K (.str x) (.ref a) H Q := .inl ⟨a, _, rfl, .inr (SqT.of ha), rfl, flat_strs, by rw [if_pos rfl, inV_strs]; exact q⟩
theorem v_index {j : Nat} (ha : H a = some (.lst (ms.map V.str))) (h : ms[j]? = some x) (hn : ∀ m, m < j → ms[m]? ≠ some x) (q : Q (.int (j : Nat)) H) : rIndexK K (.ref a) [.str x] H Q := by
  refine ⟨a, _, .str x, j, .str x, rfl, rfl, SqL.of ha, rfl, flat_strs, by rw [List.getElem?_map, h]; rfl, beq_self_eq_true x, fun m z hm hz => ?_, q⟩
  rw [List.getElem?_map] at hz
  cases e : ms[m]? with
  | none => rw [e] at hz; cases hz
  | some y =>
    rw [e] at hz
    obtain rfl := Option.some.inj hz
    show (y == x) = false
    exact beq_eq_false_iff_ne.mpr fun z => hn m hm (by rw [e, z])
end
/-- what keyword n of ks is given -/
def lk : List Str → List Int → Str → Int
  | k :: ks, x :: xs, n => if k = n then x else lk ks xs n
  | _, _, _ => 0
theorem lk_val {n : Str} : ∀ {ks : List Str} {xs : List Int}, (valV (kwD ks (xs.map V.int)) (.inr n : Key)).getD (.int 0) = .int (lk ks xs n)
  | [], _ => rfl
  | k :: ks, [] => rfl
  | k :: ks, x :: xs => by
    have ih := lk_val (n := n) (ks := ks) (xs := xs)
    show (valV (((.inr k : Key), V.int x) :: kwD ks (xs.map V.int)) (.inr n : Key)).getD (.int 0) = .int (if k = n then x else lk ks xs n)
    by_cases e : k = n
    · subst e
      rw [valV_pos rfl, if_pos rfl]
      rfl
    · rw [valV_neg (fun z => e (Sum.inr.inj z)), if_neg e]
      exact ih
theorem kwD_at {ks : List Str} {zs : List V} {i : Nat} {k : Key} {v : V} (h : (kwD ks zs)[i]? = some (k, v)) : ∃ x, ks[i]? = some x ∧ k = .inr x := by
  unfold kwD at h
  rw [List.getElem?_zip_eq_some] at h
  obtain ⟨h1, h2⟩ := h
  rw [List.getElem?_map] at h1
  cases e : ks[i]? with
  | none => rw [e] at h1; cases h1
  | some x => rw [e] at h1; exact ⟨x, rfl, (Option.some.inj h1).symm⟩
end GG

namespace K05
open PySem L2 GG PyProof.Rows
def top (i : Nat) : Stmt := PySem.Challenge.pw_gangbooks_k05_amounts_times.main.body.getD i (.Pass ⟨0, 0, 0, 0⟩)
abbrev s__law_draw : Stmt := (top 10)
abbrev s__law_pool : Stmt := (top 9)
abbrev s_Amounts___init__ : Stmt := (inClass (top 6) 0)
abbrev s_paired : Stmt := (top 7)
abbrev s_Amounts___sub__ : Stmt := (inClass (top 6) 3)
abbrev s_Amounts___add__ : Stmt := (inClass (top 6) 2)
abbrev s_Amounts___mul__ : Stmt := (inClass (top 6) 9)
abbrev s_Amounts___floordiv__ : Stmt := (inClass (top 6) 7)
abbrev s_Amounts___mod__ : Stmt := (inClass (top 6) 8)
abbrev s_Amounts___rmul__ : Stmt := (inClass (top 6) 10)
abbrev s_Amounts___neg__ : Stmt := (inClass (top 6) 11)
abbrev s_Amounts___abs__ : Stmt := (inClass (top 6) 12)
abbrev s_Amounts_of : Stmt := (inClass (top 6) 1)
abbrev s__law_number : Stmt := (top 11)
abbrev s__law_signed : Stmt := (top 12)
abbrev s__law_whole : Stmt := (top 14)
abbrev s__law_row : Stmt := (top 13)
abbrev s__law_is : Stmt := (top 15)
abbrev s__law_part : Stmt := (top 16)
abbrev s__law_divided : Stmt := (top 17)
abbrev s__law_refused : Stmt := (top 18)
abbrev s__law_sums : Stmt := (top 19)
abbrev s__law_names : Stmt := (top 20)
abbrev s__law_made : Stmt := (top 21)
abbrev s__law_asked : Stmt := (top 22)
abbrev s_law : Stmt := (top 23)
theorem sc__law_draw : FnScope ["_law_pool_here", "_law_many", "_law_first", "_law_second", "_law_found"] ["_law_pool_here", "_law_many"] (defScope s__law_draw) := ⟨rfl, rfl, rfl, by decide +kernel, rfl, by decide +kernel, by decide +kernel⟩
theorem sc__law_pool : FnScope ["_law_script", "_law_pool_here", "_law_cell"] ["_law_script"] (defScope s__law_pool) := ⟨rfl, rfl, rfl, by decide +kernel, rfl, by decide +kernel, by decide +kernel⟩
theorem sc_Amounts___init__ : FnScope ["self", "numbers"] ["self", "numbers"] (defScope s_Amounts___init__) := ⟨rfl, rfl, rfl, by decide +kernel, rfl, by decide +kernel, by decide +kernel⟩
theorem sc_paired : FnScope ["left", "right"] ["left", "right"] (defScope s_paired) := ⟨rfl, rfl, rfl, by decide +kernel, rfl, by decide +kernel, by decide +kernel⟩
theorem sc_Amounts___sub__ : FnScope ["self", "other", "numbers", "one", "two"] ["self", "other"] (defScope s_Amounts___sub__) := ⟨rfl, rfl, rfl, by decide +kernel, rfl, by decide +kernel, by decide +kernel⟩
theorem sc_Amounts___add__ : FnScope ["self", "other", "numbers", "one", "two"] ["self", "other"] (defScope s_Amounts___add__) := ⟨rfl, rfl, rfl, by decide +kernel, rfl, by decide +kernel, by decide +kernel⟩
theorem sc_Amounts___mul__ : FnScope ["self", "other", "numbers", "number"] ["self", "other"] (defScope s_Amounts___mul__) := ⟨rfl, rfl, rfl, by decide +kernel, rfl, by decide +kernel, by decide +kernel⟩
theorem sc_Amounts___floordiv__ : FnScope ["self", "other", "counts", "one", "two"] ["self", "other"] (defScope s_Amounts___floordiv__) := ⟨rfl, rfl, rfl, by decide +kernel, rfl, by decide +kernel, by decide +kernel⟩
theorem sc_Amounts___mod__ : FnScope ["self", "other"] ["self", "other"] (defScope s_Amounts___mod__) := ⟨rfl, rfl, rfl, by decide +kernel, rfl, by decide +kernel, by decide +kernel⟩
theorem sc_Amounts___rmul__ : FnScope ["self", "other"] ["self", "other"] (defScope s_Amounts___rmul__) := ⟨rfl, rfl, rfl, by decide +kernel, rfl, by decide +kernel, by decide +kernel⟩
theorem sc_Amounts___neg__ : FnScope ["self", "numbers", "number"] ["self"] (defScope s_Amounts___neg__) := ⟨rfl, rfl, rfl, by decide +kernel, rfl, by decide +kernel, by decide +kernel⟩
theorem sc_Amounts___abs__ : FnScope ["self", "number"] ["self"] (defScope s_Amounts___abs__) := ⟨rfl, rfl, rfl, by decide +kernel, rfl, by decide +kernel, by decide +kernel⟩
theorem sc_Amounts_of : FnScope ["resource_names", "named", "name", "numbers"] ["resource_names", "named"] (defScope s_Amounts_of) := ⟨rfl, rfl, rfl, by decide +kernel, rfl, by decide +kernel, by decide +kernel⟩
theorem sc__law_number : FnScope ["_law_pool_here", "_law_groups", "_law_kind", "_law_count", "_law_number_here", "_law_k", "_law_part_here"] ["_law_pool_here", "_law_groups"] (defScope s__law_number) := ⟨rfl, rfl, rfl, by decide +kernel, rfl, by decide +kernel, by decide +kernel⟩
theorem sc__law_signed : FnScope ["_law_pool_here", "_law_groups", "_law_number_here"] ["_law_pool_here", "_law_groups"] (defScope s__law_signed) := ⟨rfl, rfl, rfl, by decide +kernel, rfl, by decide +kernel, by decide +kernel⟩
theorem sc__law_whole : FnScope ["_law_value"] ["_law_value"] (defScope s__law_whole) := ⟨rfl, rfl, rfl, by decide +kernel, rfl, by decide +kernel, by decide +kernel⟩
theorem sc__law_row : FnScope ["_law_numbers"] ["_law_numbers"] (defScope s__law_row) := ⟨rfl, rfl, rfl, by decide +kernel, rfl, by decide +kernel, by decide +kernel⟩
theorem sc__law_is : FnScope ["_law_row_here", "_law_numbers", "_law_number_here"] ["_law_row_here", "_law_numbers"] (defScope s__law_is) := ⟨rfl, rfl, rfl, by decide +kernel, rfl, by decide +kernel, by decide +kernel⟩
theorem sc__law_part : FnScope ["_law_pool_here", "_law_number_here", "_law_way"] ["_law_pool_here", "_law_number_here"] (defScope s__law_part) := ⟨rfl, rfl, rfl, by decide +kernel, rfl, by decide +kernel, by decide +kernel⟩
theorem sc__law_divided : FnScope ["_law_one", "_law_a", "_law_other", "_law_b", "_law_count", "_law_more", "_law_k", "_law_rest"] ["_law_one", "_law_a", "_law_other", "_law_b"] (defScope s__law_divided) := ⟨rfl, rfl, rfl, by decide +kernel, rfl, by decide +kernel, by decide +kernel⟩
theorem sc__law_refused : FnScope ["_law_one", "_law_other", "_law_b", "_law_way", "e", "_law_found"] ["_law_one", "_law_other", "_law_b", "_law_way"] (defScope s__law_refused) := ⟨rfl, rfl, rfl, by decide +kernel, rfl, by decide +kernel, by decide +kernel⟩
theorem sc__law_sums : FnScope ["_law_one", "_law_a", "_law_other", "_law_b", "_law_times", "_law_size", "_law_number_here", "_law_k"] ["_law_one", "_law_a", "_law_other", "_law_b", "_law_times"] (defScope s__law_sums) := ⟨rfl, rfl, rfl, by decide +kernel, rfl, by decide +kernel, by decide +kernel⟩
theorem sc__law_names : FnScope ["_law_pool_here", "_law_letters", "_law_left", "_law_kinds", "_law_k"] ["_law_pool_here"] (defScope s__law_names) := ⟨rfl, rfl, rfl, by decide +kernel, rfl, by decide +kernel, by decide +kernel⟩
theorem sc__law_made : FnScope ["_law_kinds", "_law_given", "_law_way", "_law_x", "_law_y", "_law_z", "_law_made_here"] ["_law_kinds", "_law_given", "_law_way"] (defScope s__law_made) := ⟨rfl, rfl, rfl, by decide +kernel, rfl, by decide +kernel, by decide +kernel⟩
theorem sc__law_asked : FnScope ["_law_kinds", "_law_given", "_law_way", "_law_words", "_law_strange", "e", "_law_numbers", "_law_made_here", "_law_name", "_law_number_here", "_law_word"] ["_law_kinds", "_law_given", "_law_way"] (defScope s__law_asked) := ⟨rfl, rfl, rfl, by decide +kernel, rfl, by decide +kernel, by decide +kernel⟩
theorem sc_law : FnScope ["_law_script", "_law_pool_here", "_law_a", "_law_b", "_law_c", "_law_d", "_law_nothing", "_law_times", "_law_kinds", "_law_given", "_law_one", "_law_other", "_law_third", "_law_fourth", "_law_empty", "_law_turn", "_law_way", "_law_k", "_law_number_here"] ["_law_script"] (defScope s_law) := ⟨rfl, rfl, rfl, by decide +kernel, rfl, by decide +kernel, by decide +kernel⟩
structure Ad where
  K : PySem.W.Frag
  GangError : Addr
  BadShare : Addr
  BadAmounts : Addr
  Unknown : Addr
  Amounts : Addr
  fE : Addr
structure Txt (K : PySem.W.Frag) (mg : Str → Option Value) (c : Ad) : Prop where
  kk : c.K = K
  b_ValueError : mg "ValueError" = none
  b_len : mg "len" = none
  b_int : mg "int" = none
  b_abs : mg "abs" = none
  b_isinstance : mg "isinstance" = none
  b_bool : mg "bool" = none
  b_range : mg "range" = none
  b_list : mg "list" = none
  b_zip : mg "zip" = none
  b_min : mg "min" = none
  b_tuple : mg "tuple" = none
  b_sum : mg "sum" = none
  g_GangError : mg "GangError" = some (.ref c.GangError)
  g_BadShare : mg "BadShare" = some (.ref c.BadShare)
  g_BadAmounts : mg "BadAmounts" = some (.ref c.BadAmounts)
  g_Unknown : mg "Unknown" = some (.ref c.Unknown)
  g_Amounts : mg "Amounts" = some (.ref c.Amounts)
  o_Amounts : OwnC K mg "Amounts" c.Amounts
  sf_Amounts : PySem.W.selfFirst K c.Amounts = true
  na_Amounts_numbers : NoAttr K c.Amounts "numbers"
  ni_Amounts : PySem.W.notFirst K c.Amounts (.type "int") = true
  nt_Amounts : PySem.W.notFirst K c.Amounts (.type "tuple") = true
  si_Amounts : PySem.W.subIn K (.ref c.Amounts) (.type "int") = some false
  ri_Amounts___mul__ : RightT K c.Amounts "int" "mul"
  e_BadAmounts : PySem.GErr.ErrTxt K mg "BadAmounts" c.BadAmounts c.fE
  e_Unknown : PySem.GErr.ErrTxt K mg "Unknown" c.Unknown c.fE
  x_BadAmounts_GangError : PySem.W.exmOne K (.ref c.BadAmounts) (.ref c.GangError) = some true
  x_Unknown_GangError : PySem.W.exmOne K (.ref c.Unknown) (.ref c.GangError) = some true
  k_BadAmounts_BadAmounts : PySem.W.kitOne K (.ref c.BadAmounts) (.ref c.BadAmounts) = some true
  k_BadAmounts_ValueError : PySem.W.kitOne K (.ref c.BadAmounts) (.type "ValueError") = some true
  k_BadAmounts_BadShare : PySem.W.kitOne K (.ref c.BadAmounts) (.ref c.BadShare) = some false
  k_BadAmounts_Unknown : PySem.W.kitOne K (.ref c.BadAmounts) (.ref c.Unknown) = some false
  k_Unknown_Unknown : PySem.W.kitOne K (.ref c.Unknown) (.ref c.Unknown) = some true
  k_Unknown_ValueError : PySem.W.kitOne K (.ref c.Unknown) (.type "ValueError") = some true
  k_Unknown_BadAmounts : PySem.W.kitOne K (.ref c.Unknown) (.ref c.BadAmounts) = some false
def spLaw (K : PySem.W.Frag) : Sp := fun vs H Q _ => vs.length = 1 ∧ ∃ (a : Addr) (ns : List Int), vs = [.ref a] ∧ SqL K H a (ns.map V.int) ∧ ns.length ≤ 63 ∧ (∀ n ∈ ns, Builtin.Int.intBits n ≤ 1048576) ∧ ∀ H', Q (.bl true) H'
/-- the pool of a law: three small numbers, a count, great numbers -/
def Pool (H : Hp) (p : Addr) : Prop := ∃ a b c n : Int, ∃ hs : List Int, H p = some (.lst (.int a :: .int b :: .int c :: .int n :: hs.map V.int)) ∧ (0 ≤ a ∧ a < 101) ∧ (0 ≤ b ∧ b < 103) ∧ (0 ≤ c ∧ c < 1009) ∧ hs.length ≤ 63
theorem putF_ne {f g : Str} {v x : V} {r : List (Str × V)} (h : ¬ g = f) : putF f v ((g, x) :: r) = (g, x) :: putF f v r := by
  show (if g = f then _ else _) = _
  rw [if_neg h]
theorem ints_at {ns : List Int} {i : Nat} {x : V} (hx : (ns.map V.int)[i]? = some x) : ∃ z, x = V.int z := by
  rw [List.getElem?_map] at hx
  cases q : ns[i]? with
  | none => rw [q] at hx; cases hx
  | some z => rw [q] at hx; exact ⟨z, (Option.some.inj hx).symm⟩
theorem map_at {α : Type} {f : α → V} {l : List α} {i : Nat} {x : V} (h : (l.map f)[i]? = some x) : ∃ r, l[i]? = some r ∧ x = f r := by
  rw [List.getElem?_map] at h
  cases q : l[i]? with
  | none => rw [q] at h; cases h
  | some r => rw [q] at h; exact ⟨r, rfl, (Option.some.inj h).symm⟩
theorem Pool.ext {H H' : Hp} {p : Addr} (h : Pool H p) (e : Ext H H') : Pool H' p := by
  obtain ⟨a, b, c, n, hs, h1, r⟩ := h
  exact ⟨a, b, c, n, hs, e.look h1, r⟩
theorem Pool.lst {H : Hp} {p : Addr} (h : Pool H p) : ∃ xs, H p = some (.lst xs) := by
  obtain ⟨a, b, c, n, hs, h1, r⟩ := h
  exact ⟨_, h1⟩
theorem Pool.ne {H : Hp} {p q : Addr} (h : Pool H p) (nq : H q = none) : q ≠ p := by
  obtain ⟨xs, h1⟩ := h.lst
  exact Ne.symm (ne_of_none h1 nq)
theorem Pool.but {H H' : Hp} {p q : Addr} (h : Pool H p) (e : But q H H') (n : q ≠ p) : Pool H' p := by
  obtain ⟨a, b, c, n', hs, h1, r⟩ := h
  exact ⟨a, b, c, n', hs, e.look (Ne.symm n) h1, r⟩

open GM
abbrev amF (u : Addr) : List (Str × V) := [("numbers", .ref u)]
theorem int_at {ns : List Int} {i : Nat} {x : V} (h : (ns.map V.int)[i]? = some x) : i < ns.length ∧ x = .int (ns.getD i 0) := by
  obtain ⟨z, hz, rfl⟩ := map_at h
  refine ⟨(List.getElem?_eq_some_iff.mp hz).1, ?_⟩
  rw [List.getD_eq_getElem?_getD, hz]
  rfl
theorem int_get {ns : List Int} {i : Nat} (h : i < ns.length) : (ns.map V.int)[i]? = some (.int (ns.getD i 0)) := by
  rw [List.getElem?_map, List.getD_eq_getElem?_getD, List.getElem?_eq_getElem h]
  rfl
theorem paired_get {α β : Type} {R : α → β → Prop} : ∀ {as : List α} {bs : List β} {i : Nat} {a : α}, Paired R as bs → as[i]? = some a → ∃ b, bs[i]? = some b ∧ R a b
  | _, _, 0, _, .cons r _, h => ⟨_, rfl, by obtain rfl := Option.some.inj h; exact r⟩
  | _, _, i + 1, _, .cons _ t, h => paired_get (i := i) t h
theorem rng_map {ns : List Int} (g : Int → Int) : (List.range ns.length).map (fun i => V.int (g (ns.getD i 0))) = (ns.map g).map V.int := by
  apply List.ext_getElem?
  intro i
  rw [List.getElem?_map, List.getElem?_map, List.getElem?_map]
  by_cases h : i < ns.length
  · have e : ns.getD i 0 = ns[i] := by rw [List.getD_eq_getElem?_getD, List.getElem?_eq_getElem h]; rfl
    rw [List.getElem?_range h, List.getElem?_eq_getElem h]
    simp only [Option.map_some, e]
  · rw [List.getElem?_eq_none (by simp; omega), List.getElem?_eq_none (by omega)]
    rfl
theorem rng_mapB {ns : List Int} (g : Int → Bool) : (List.range ns.length).map (fun i => V.bl (g (ns.getD i 0))) = (ns.map g).map V.bl := by
  apply List.ext_getElem?
  intro i
  rw [List.getElem?_map, List.getElem?_map, List.getElem?_map]
  by_cases h : i < ns.length
  · have e : ns.getD i 0 = ns[i] := by rw [List.getD_eq_getElem?_getD, List.getElem?_eq_getElem h]; rfl
    rw [List.getElem?_range h, List.getElem?_eq_getElem h]
    simp only [Option.map_some, e]
  · rw [List.getElem?_eq_none (by simp; omega), List.getElem?_eq_none (by omega)]
    rfl
theorem zip_at {α : Type} {xs ys : List Int} {g : Int → Int → α} {i : Nat} (h1 : i < xs.length) (h2 : i < ys.length) : (List.zipWith g xs ys)[i]? = some (g (xs.getD i 0) (ys.getD i 0)) := by
  rw [List.getElem?_zipWith, List.getElem?_eq_getElem h1, List.getElem?_eq_getElem h2, List.getD_eq_getElem?_getD, List.getD_eq_getElem?_getD, List.getElem?_eq_getElem h1, List.getElem?_eq_getElem h2]
  rfl
theorem rng_zip {α : Type} {xs ys : List Int} (g : Int → Int → α) (f : α → V) (h : xs.length = ys.length) : (List.range xs.length).map (fun i => f (g (xs.getD i 0) (ys.getD i 0))) = (List.zipWith g xs ys).map f := by
  apply List.ext_getElem?
  intro i
  rw [List.getElem?_map, List.getElem?_map]
  by_cases hi : i < xs.length
  · rw [List.getElem?_range hi, zip_at hi (by omega)]
    rfl
  · rw [List.getElem?_eq_none (by simp; omega), List.getElem?_eq_none (by simp; omega)]
    rfl
/-- each number of the inner row is at most that of the outer one -/
def within (inner outer : List Int) : Bool := (List.zipWith (fun o i => decide (i ≤ o)) outer inner).all id
theorem within_iff {ms ns : List Int} (h : ms.length = ns.length) : within ms ns = true ↔ ∀ i, i < ms.length → ms.getD i 0 ≤ ns.getD i 0 := by
  unfold within
  rw [List.all_eq_true]
  constructor
  · intro h1 i hi
    have h2 := h1 _ (List.mem_of_getElem? (zip_at (g := fun o i => decide (i ≤ o)) (show i < ns.length by omega) hi))
    exact of_decide_eq_true h2
  · intro h1 x hx
    obtain ⟨i, hi⟩ := List.mem_iff_getElem?.mp hx
    have hi2 : i < ms.length := by
      have := (List.getElem?_eq_some_iff.mp hi).1
      simp at this
      omega
    rw [zip_at (by omega) hi2] at hi
    obtain rfl := Option.some.inj hi
    exact decide_eq_true (h1 i hi2)
theorem zip_getD {xs ys : List Int} {g : Int → Int → Int} {i : Nat} (h1 : i < xs.length) (h2 : i < ys.length) : (List.zipWith g xs ys).getD i 0 = g (xs.getD i 0) (ys.getD i 0) := by
  rw [List.getD_eq_getElem?_getD, zip_at h1 h2]
  rfl
theorem within_min {xs ys zs : List Int} (h1 : xs.length = zs.length) (h2 : ys.length = zs.length) : within zs (List.zipWith (fun x y => min x y) xs ys) = (within zs xs && within zs ys) := by
  rw [Bool.eq_iff_iff, Bool.and_eq_true, within_iff (by simp; omega), within_iff (by omega), within_iff (by omega)]
  constructor
  · intro h
    refine ⟨fun i hi => ?_, fun i hi => ?_⟩
    · have := h i hi
      rw [zip_getD (by omega) (by omega)] at this
      omega
    · have := h i hi
      rw [zip_getD (by omega) (by omega)] at this
      omega
  · rintro ⟨ha, hb⟩ i hi
    rw [zip_getD (by omega) (by omega)]
    have := ha i hi
    have := hb i hi
    omega
theorem within_max {xs ys zs : List Int} (h1 : xs.length = zs.length) (h2 : ys.length = zs.length) : within (List.zipWith (fun x y => max x y) xs ys) zs = (within xs zs && within ys zs) := by
  have hl : (List.zipWith (fun x y => max x y) xs ys).length = zs.length := by simp; omega
  rw [Bool.eq_iff_iff, Bool.and_eq_true, within_iff hl, within_iff (by omega), within_iff (by omega), hl]
  constructor
  · intro h
    refine ⟨fun i hi => ?_, fun i hi => ?_⟩
    · have := h i (by omega)
      rw [zip_getD (by omega) (by omega)] at this
      omega
    · have := h i (by omega)
      rw [zip_getD (by omega) (by omega)] at this
      omega
  · rintro ⟨ha, hb⟩ i hi
    rw [zip_getD (by omega) (by omega)]
    have := ha i (by omega)
    have := hb i (by omega)
    omega

theorem cm10 {x y : Int} (hx : -(1000 ^ 10) < x ∧ x < 1000 ^ 10) (hy : -(1000 ^ 10) < y ∧ y < 1000 ^ 10) : CM x y := CM.wide (a := 100) (b := 100) (by omega) (by omega) (by decide)
theorem cd10 {x y : Int} (h0 : 0 < y) (h1 : y < 1000 ^ 10) : CD x y := ⟨by omega, Nat.lt_trans (PySem.Flt.log2_lt_of (k := 100) (by decide) (by omega)) (by decide)⟩
/-- the quotients that count -/
def cnt (xs ys : List Int) (i : Nat) : List Int := ((List.range i).filter fun j => decide (0 < ys.getD j 0)).map fun j => (xs.getD j 0).fdiv (ys.getD j 0)
theorem cnt_yes {xs ys : List Int} {i : Nat} (h : 0 < ys.getD i 0) : cnt xs ys (i + 1) = cnt xs ys i ++ [(xs.getD i 0).fdiv (ys.getD i 0)] := by
  unfold cnt
  rw [List.range_succ, List.filter_append, List.map_append]
  congr 1
  rw [List.filter_cons, decide_eq_true h]
  rfl
theorem cnt_no {xs ys : List Int} {i : Nat} (h : ¬ 0 < ys.getD i 0) : cnt xs ys (i + 1) = cnt xs ys i := by
  unfold cnt
  rw [List.range_succ, List.filter_append, List.map_append]
  rw [List.filter_cons, decide_eq_false h]
  simp
theorem cnt_len {xs ys : List Int} {i : Nat} : (cnt xs ys i).length ≤ i := by
  unfold cnt
  rw [List.length_map]
  have := List.length_filter_le (fun j => decide (0 < ys.getD j 0)) (List.range i)
  rw [List.length_range] at this
  exact this
theorem cnt_mem {xs ys : List Int} {n : Nat} {m : Int} : m ∈ cnt xs ys n ↔ ∃ j, j < n ∧ 0 < ys.getD j 0 ∧ m = (xs.getD j 0).fdiv (ys.getD j 0) := by
  unfold cnt
  rw [List.mem_map]
  constructor
  · rintro ⟨j, hj, rfl⟩
    obtain ⟨h1, h2⟩ := List.mem_filter.mp hj
    exact ⟨j, List.mem_range.mp h1, of_decide_eq_true h2, rfl⟩
  · rintro ⟨j, h1, h2, rfl⟩
    exact ⟨j, List.mem_filter.mpr ⟨List.mem_range.mpr h1, decide_eq_true h2⟩, rfl⟩
/-- q is the greatest whole number with q * ys within xs -/
def Quo (xs ys : List Int) (q : Int) : Prop := 0 ≤ q ∧ q < 1000 ^ 10 ∧ (∀ i, i < xs.length → q * ys.getD i 0 ≤ xs.getD i 0) ∧ ∃ i, i < xs.length ∧ xs.getD i 0 < (q + 1) * ys.getD i 0
theorem quo_of {xs ys : List Int} {m : Int} (hx : ∀ i, i < xs.length → 0 ≤ xs.getD i 0 ∧ xs.getD i 0 < 1000 ^ 10) (hy : ∀ i, i < xs.length → 0 ≤ ys.getD i 0 ∧ ys.getD i 0 < 1000 ^ 10)
    (hm : m ∈ cnt xs ys xs.length) (hl : ∀ y ∈ cnt xs ys xs.length, m ≤ y) : Quo xs ys m := by
  obtain ⟨j, hj, h0, hmj⟩ := cnt_mem.mp hm
  obtain ⟨x0, x1⟩ := hx j hj
  rw [Int.fdiv_eq_ediv_of_nonneg _ (by omega)] at hmj
  have e0 : 0 ≤ xs.getD j 0 / ys.getD j 0 := Int.ediv_nonneg x0 (by omega)
  have e1 : xs.getD j 0 / ys.getD j 0 ≤ xs.getD j 0 := Int.ediv_le_self _ x0
  refine ⟨by omega, by omega, fun i hi => ?_, j, hj, ?_⟩
  · obtain ⟨y0, _⟩ := hy i hi
    by_cases h : 0 < ys.getD i 0
    · have := hl _ (cnt_mem.mpr ⟨i, hi, h, rfl⟩)
      rw [Int.fdiv_eq_ediv_of_nonneg _ (by omega)] at this
      exact (Int.le_ediv_iff_mul_le h).mp this
    · rw [show ys.getD i 0 = 0 by omega, Int.mul_zero]
      exact (hx i hi).1
  · rw [hmj]
    exact Int.lt_ediv_add_one_mul_self _ h0
theorem Quo.le {xs ys : List Int} {q r : Int} (hy : ∀ i, i < xs.length → 0 ≤ ys.getD i 0 ∧ ys.getD i 0 < 1000 ^ 10) (h1 : Quo xs ys q) (h2 : Quo xs ys r) : q ≤ r := by
  obtain ⟨_, _, a, _⟩ := h1
  obtain ⟨_, _, _, i, hi, b⟩ := h2
  have h3 := a i hi
  have h4 : q * ys.getD i 0 < (r + 1) * ys.getD i 0 := by omega
  have := Int.lt_of_mul_lt_mul_right h4 (hy i hi).1
  omega
theorem Quo.same {xs ys : List Int} {q r : Int} (hy : ∀ i, i < xs.length → 0 ≤ ys.getD i 0 ∧ ys.getD i 0 < 1000 ^ 10) (h1 : Quo xs ys q) (h2 : Quo xs ys r) : q = r := by
  have := Quo.le hy h1 h2
  have := Quo.le hy h2 h1
  omega

/-- the keywords of a way -/
def wk : Nat → List Str
  | 0 => []
  | 1 => ["core"]
  | 2 => ["fast"]
  | 3 => ["big", "core"]
  | 4 => ["core", "big"]
  | 5 => ["fast", "core"]
  | 6 => ["big", "fast", "core"]
  | 7 => ["core", "fast", "big"]
  | 8 => ["names"]
  | _ => ["core", "names"]
theorem wk_nodup (j : Nat) : (wk j).Nodup := by
  unfold wk
  split <;> decide +kernel
theorem wk_ok (j : Nat) : ∀ k ∈ wk j, PyData.strOk k = true := by
  unfold wk
  split <;> decide +kernel
theorem take_sum {xs : List Int} {f : Int → Int} {i : Nat} (h : i < xs.length) : ((xs.take (i + 1)).map f).sum = ((xs.take i).map f).sum + f (xs.getD i 0) := by
  have e : xs.getD i 0 = xs[i] := by rw [List.getD_eq_getElem?_getD, List.getElem?_eq_getElem h]; rfl
  rw [List.take_succ, List.getElem?_eq_getElem h, e, List.map_append, List.sum_append]
  simp
theorem getD_of {P : Int → Prop} {ns : List Int} (h : ∀ z ∈ ns, P z) {i : Nat} (hi : i < ns.length) : P (ns.getD i 0) := by
  rw [List.getD_eq_getElem?_getD, List.getElem?_eq_getElem hi]
  exact h _ (List.getElem_mem hi)
theorem map_erase {f : Str → V} : ∀ {l : List Str} {i : Nat}, (l.map f).eraseIdx i = (l.eraseIdx i).map f
  | [], _ => rfl
  | x :: l, 0 => rfl
  | x :: l, i + 1 => by
    show f x :: (l.map f).eraseIdx i = f x :: (l.eraseIdx i).map f
    rw [map_erase]
theorem erase_perm : ∀ {l : List Str} {i : Nat} (h : i < l.length), (l[i] :: l.eraseIdx i).Perm l
  | x :: l, 0, _ => List.Perm.refl _
  | x :: l, i + 1, h => by
    have ih := erase_perm (l := l) (i := i) (by simpa using h)
    exact (List.Perm.swap _ _ _).trans (List.Perm.cons x ih)
/-- pairs of a name and a number -/
def Prs (H : Hp) : List Addr → List Str → List Int → Prop
  | [], [], [] => True
  | t :: ts, k :: ks, x :: xs => H t = some (.tup [.str k, .int x]) ∧ Prs H ts ks xs
  | _, _, _ => False
theorem Prs.ext {H H' : Hp} (e : Ext H H') : ∀ {ts : List Addr} {ks : List Str} {xs : List Int}, Prs H ts ks xs → Prs H' ts ks xs
  | [], [], [], _ => trivial
  | _ :: _, _ :: _, _ :: _, h => ⟨e.look h.1, Prs.ext e h.2⟩
theorem Prs.len {H : Hp} : ∀ {ts : List Addr} {ks : List Str} {xs : List Int}, Prs H ts ks xs → ts.length = ks.length ∧ xs.length = ks.length
  | [], [], [], _ => ⟨rfl, rfl⟩
  | _ :: _, _ :: _, _ :: _, h => by obtain ⟨a, b⟩ := Prs.len h.2; exact ⟨by simp [a], by simp [b]⟩
theorem Prs.at {H : Hp} : ∀ {ts : List Addr} {ks : List Str} {xs : List Int} {i : Nat} {t : Addr}, Prs H ts ks xs → ts[i]? = some t → ∃ k x, ks[i]? = some k ∧ xs[i]? = some x ∧ H t = some (.tup [.str k, .int x])
  | _ :: _, _ :: _, _ :: _, 0, _, h, ht => by cases ht; exact ⟨_, _, rfl, rfl, h.1⟩
  | _ :: _, _ :: _, _ :: _, i + 1, _, h, ht => Prs.at (i := i) h.2 ht
theorem lk_none {n : Str} : ∀ {ks : List Str} {xs : List Int}, n ∉ ks → lk ks xs n = 0
  | [], _, _ => rfl
  | k :: ks, [], _ => rfl
  | k :: ks, x :: xs, h => by
    show (if k = n then x else lk ks xs n) = 0
    rw [if_neg (fun e => h (by rw [e]; exact .head _)), lk_none fun z => h (.tail _ z)]
theorem lk_snoc {k n : Str} {x : Int} : ∀ {ks : List Str} {xs : List Int}, ks.length = xs.length → k ∉ ks → lk (ks ++ [k]) (xs ++ [x]) n = if k = n then x else lk ks xs n
  | [], [], _, _ => rfl
  | a :: ks, y :: xs, hl, h => by
    show (if a = n then y else lk (ks ++ [k]) (xs ++ [x]) n) = if k = n then x else if a = n then y else lk ks xs n
    rw [lk_snoc (by simpa using hl) fun z => h (.tail _ z)]
    by_cases e : a = n
    · rw [if_pos e, if_pos e, if_neg]
      intro e2
      exact h (by rw [e2, ← e]; exact .head _)
    · rw [if_neg e, if_neg e]
theorem set_lk {kinds : List Str} {k : Str} {j : Nat} {x : Int} {f g : Str → Int} (hn : kinds.Nodup) (hj : kinds[j]? = some k) (hg : ∀ n, g n = if k = n then x else f n) : ((kinds.map f).map V.int).set j (.int x) = (kinds.map g).map V.int := by
  apply List.ext_getElem?
  intro m
  rw [List.getElem?_set, List.getElem?_map, List.getElem?_map, List.getElem?_map, List.getElem?_map]
  have hjl := (List.getElem?_eq_some_iff.mp hj).1
  by_cases e : j = m
  · subst e
    rw [if_pos rfl, if_pos (by simpa using hjl), hj]
    simp only [Option.map_some, hg, if_pos]
  · rw [if_neg e]
    cases hm : kinds[m]? with
    | none => rfl
    | some n =>
      simp only [Option.map_some]
      rw [hg, if_neg]
      intro e2
      exact e ((List.getElem?_inj hjl hn).mp (by rw [hj, hm, e2]))
theorem wk_len (j : Nat) : (wk j).length ≤ 3 := by
  unfold wk
  split <;> simp

def kss_Amounts_of : List (List Str) := [[], ["core"], ["fast"], ["big", "core"], ["core", "big"], ["fast", "core"], ["big", "fast", "core"], ["core", "fast", "big"], ["names"], ["core", "names"]]
theorem kwb_Amounts_of : ∀ ks ∈ kss_Amounts_of, ∀ (kV doc pm : Value) (an : Option Addr) (cdv ct : Value) (us ws : List Value), us.length = 1 → ws.length = ks.length → bindArgs (PySem.W.fnOf "of" "Amounts.of" (defArgs s_Amounts_of) (defBody s_Amounts_of) (defScope s_Amounts_of) .none kV doc pm an cdv ct) ⟨us, ks.zip ws⟩ =
      ((alloc (PySem.W.dictOf [] 0) : Sem Addr) >>= fun D => (forIn (ks.zip ws) PUnit.unit fun x _ => (nsSet D x.1 x.2 >>= fun _ => pure (ForInStep.yield PUnit.unit))) >>= fun _ => pure ((["resource_names"] : List Str).zip us ++ [(("named" : Str), Value.ref D)])) := by
  intro ks hk kV doc pm an cdv ct us ws l1 l2
  unfold kss_Amounts_of at hk
  simp only [List.mem_cons, List.not_mem_nil, or_false] at hk
  rcases hk with rfl | rfl | rfl | rfl | rfl | rfl | rfl | rfl | rfl | rfl
  · match us, ws, l1, l2 with
    | [_], [], _, _ => rfl
  · match us, ws, l1, l2 with
    | [_], [_], _, _ => rfl
  · match us, ws, l1, l2 with
    | [_], [_], _, _ => rfl
  · match us, ws, l1, l2 with
    | [_], [_, _], _, _ => rfl
  · match us, ws, l1, l2 with
    | [_], [_, _], _, _ => rfl
  · match us, ws, l1, l2 with
    | [_], [_, _], _, _ => rfl
  · match us, ws, l1, l2 with
    | [_], [_, _, _], _, _ => rfl
  · match us, ws, l1, l2 with
    | [_], [_, _, _], _, _ => rfl
  · match us, ws, l1, l2 with
    | [_], [_], _, _ => rfl
  · match us, ws, l1, l2 with
    | [_], [_, _], _, _ => rfl
def sp__law_draw (c : Ad) : Sp := fun vs H Q _ => vs.length = 2 ∧ ∃ (p : Addr) (m : Int), vs = [.ref p, .int m] ∧ Pool H p ∧ 0 < m ∧ m ≤ 1000000 ∧ ∀ r H', 0 ≤ r → r < m → But p H H' → Pool H' p → Q (.int r) H'
def sp__law_pool (c : Ad) : Sp := fun vs H Q _ => vs.length = 1 ∧ ∃ (a : Addr) (ns : List Int), vs = [.ref a] ∧ SqL c.K H a (ns.map V.int) ∧ ns.length ≤ 63 ∧ (∀ n ∈ ns, Builtin.Int.intBits n ≤ 1048576) ∧ ∀ p H', H p = none → Ext H H' → Pool H' p → Q (.ref p) H'
def sp_Amounts___init__ (c : Ad) : Sp := fun vs H Q E => vs.length = 2 ∧ ∃ (x dx p : Addr) (xs : List V), vs = [.ref x, .ref p] ∧ H x = some (.ins c.Amounts dx []) ∧ H p = some (.tup xs) ∧ (1 ≤ xs.length → xs.length ≤ 3 → ∀ H', But x H H' → H' x = some (.ins c.Amounts dx (amF p)) → Q .non H') ∧ (¬ (1 ≤ xs.length ∧ xs.length ≤ 3) → ∀ d H', Ext H H' → H' d = some (.xd (subj (.ref p))) → E (.ref c.BadAmounts) (some d) H')
def sp_paired (c : Ad) : Sp := fun vs H Q E => vs.length = 2 ∧ ∃ (a dx u b dy v : Addr) (xs ys : List Int), vs = [.ref a, .ref b] ∧ H a = some (.ins c.Amounts dx (amF u)) ∧ H u = some (.tup (xs.map V.int)) ∧ H b = some (.ins c.Amounts dy (amF v)) ∧ H v = some (.tup (ys.map V.int)) ∧ 1 ≤ xs.length ∧ xs.length ≤ 3 ∧ ys.length ≤ 3 ∧ (xs.length = ys.length → ∀ (q : Addr) (ts : List Addr) (H' : Hp), H q = none → Ext H H' → H' q = some (.lst (ts.map V.ref)) → ts.length = xs.length → (∀ i t, i < xs.length → ts[i]? = some t → H' t = some (.tup [.int (xs.getD i 0), .int (ys.getD i 0)])) → Q (.ref q) H') ∧ (xs.length ≠ ys.length → ∀ d H', Ext H H' → H' d = some (.xd (subj (.ref v))) → E (.ref c.BadAmounts) (some d) H')
def sp_Amounts___sub__ (c : Ad) : Sp := fun vs H Q E => vs.length = 2 ∧ ∃ (a dx u b dy v : Addr) (xs ys : List Int), vs = [.ref a, .ref b] ∧ H a = some (.ins c.Amounts dx (amF u)) ∧ H u = some (.tup (xs.map V.int)) ∧ H b = some (.ins c.Amounts dy (amF v)) ∧ H v = some (.tup (ys.map V.int)) ∧ 1 ≤ xs.length ∧ xs.length ≤ 3 ∧ ys.length ≤ 3 ∧ (xs.length = ys.length → ∀ x dx' w H', H x = none → Ext H H' → H' x = some (.ins c.Amounts dx' (amF w)) → H' w = some (.tup ((List.zipWith (fun x y => x - y) xs ys).map V.int)) → Q (.ref x) H') ∧ (xs.length ≠ ys.length → ∀ d H', Ext H H' → H' d = some (.xd (subj (.ref v))) → E (.ref c.BadAmounts) (some d) H')
def sp_Amounts___add__ (c : Ad) : Sp := fun vs H Q E => vs.length = 2 ∧ ∃ (a dx u b dy v : Addr) (xs ys : List Int), vs = [.ref a, .ref b] ∧ H a = some (.ins c.Amounts dx (amF u)) ∧ H u = some (.tup (xs.map V.int)) ∧ H b = some (.ins c.Amounts dy (amF v)) ∧ H v = some (.tup (ys.map V.int)) ∧ 1 ≤ xs.length ∧ xs.length ≤ 3 ∧ ys.length ≤ 3 ∧ (xs.length = ys.length → ∀ x dx' w H', H x = none → Ext H H' → H' x = some (.ins c.Amounts dx' (amF w)) → H' w = some (.tup ((List.zipWith (fun x y => x + y) xs ys).map V.int)) → Q (.ref x) H') ∧ (xs.length ≠ ys.length → ∀ d H', Ext H H' → H' d = some (.xd (subj (.ref v))) → E (.ref c.BadAmounts) (some d) H')
def sp_Amounts___mul__ (c : Ad) : Sp := fun vs H Q E => vs.length = 2 ∧ ∃ (a dx u : Addr) (xs : List Int) (n : Int), vs = [.ref a, .int n] ∧ H a = some (.ins c.Amounts dx (amF u)) ∧ H u = some (.tup (xs.map V.int)) ∧ 1 ≤ xs.length ∧ xs.length ≤ 3 ∧ (∀ i, i < xs.length → CM n (xs.getD i 0)) ∧ (∀ x dx' w H', H x = none → Ext H H' → H' x = some (.ins c.Amounts dx' (amF w)) → H' w = some (.tup ((xs.map (fun x => n * x)).map V.int)) → Q (.ref x) H')
def sp_Amounts___floordiv__ (c : Ad) : Sp := fun vs H Q E => vs.length = 2 ∧ ∃ (a dx u b dy v : Addr) (xs ys : List Int), vs = [.ref a, .ref b] ∧ H a = some (.ins c.Amounts dx (amF u)) ∧ H u = some (.tup (xs.map V.int)) ∧ H b = some (.ins c.Amounts dy (amF v)) ∧ H v = some (.tup (ys.map V.int)) ∧ 1 ≤ xs.length ∧ xs.length ≤ 3 ∧ ys.length ≤ 3 ∧ xs.length = ys.length ∧ (∀ i, i < xs.length → 0 ≤ xs.getD i 0 ∧ xs.getD i 0 < 1000 ^ 10) ∧ (∀ i, i < xs.length → 0 ≤ ys.getD i 0 ∧ ys.getD i 0 < 1000 ^ 10) ∧ ((∃ i, i < xs.length ∧ 0 < ys.getD i 0) → ∀ q H', Ext H H' → Quo xs ys q → Q (.int q) H') ∧ ((∀ i, i < xs.length → ys.getD i 0 = 0) → ∀ d H', Ext H H' → H' d = some (.xd (subj (.ref v))) → E (.ref c.BadAmounts) (some d) H')
def sp_Amounts___mod__ (c : Ad) : Sp := fun vs H Q E => vs.length = 2 ∧ ∃ (a dx u b dy v : Addr) (xs ys : List Int), vs = [.ref a, .ref b] ∧ H a = some (.ins c.Amounts dx (amF u)) ∧ H u = some (.tup (xs.map V.int)) ∧ H b = some (.ins c.Amounts dy (amF v)) ∧ H v = some (.tup (ys.map V.int)) ∧ 1 ≤ xs.length ∧ xs.length ≤ 3 ∧ ys.length ≤ 3 ∧ xs.length = ys.length ∧ (∀ i, i < xs.length → 0 ≤ xs.getD i 0 ∧ xs.getD i 0 < 1000 ^ 10) ∧ (∀ i, i < xs.length → 0 ≤ ys.getD i 0 ∧ ys.getD i 0 < 1000 ^ 10) ∧ ((∃ i, i < xs.length ∧ 0 < ys.getD i 0) → ∀ q, Quo xs ys q → ∀ x dx' w H', H x = none → Ext H H' → H' x = some (.ins c.Amounts dx' (amF w)) → H' w = some (.tup ((List.zipWith (fun x y => x - q * y) xs ys).map V.int)) → Q (.ref x) H') ∧ ((∀ i, i < xs.length → ys.getD i 0 = 0) → ∀ d H', Ext H H' → H' d = some (.xd (subj (.ref v))) → E (.ref c.BadAmounts) (some d) H')
def sp_Amounts___rmul__ (c : Ad) : Sp := fun vs H Q E => vs.length = 2 ∧ ∃ (a dx u : Addr) (xs : List Int) (n : Int), vs = [.ref a, .int n] ∧ H a = some (.ins c.Amounts dx (amF u)) ∧ H u = some (.tup (xs.map V.int)) ∧ 1 ≤ xs.length ∧ xs.length ≤ 3 ∧ (∀ i, i < xs.length → CM n (xs.getD i 0)) ∧ (∀ x dx' w H', H x = none → Ext H H' → H' x = some (.ins c.Amounts dx' (amF w)) → H' w = some (.tup ((xs.map (fun x => n * x)).map V.int)) → Q (.ref x) H')
def sp_Amounts___neg__ (c : Ad) : Sp := fun vs H Q E => vs.length = 1 ∧ ∃ (a dx u : Addr) (xs : List Int), vs = [.ref a] ∧ H a = some (.ins c.Amounts dx (amF u)) ∧ H u = some (.tup (xs.map V.int)) ∧ 1 ≤ xs.length ∧ xs.length ≤ 3 ∧ (∀ x dx' w H', H x = none → Ext H H' → H' x = some (.ins c.Amounts dx' (amF w)) → H' w = some (.tup ((xs.map (fun x => -x)).map V.int)) → Q (.ref x) H')
def sp_Amounts___abs__ (c : Ad) : Sp := fun vs H Q E => vs.length = 1 ∧ ∃ (a dx u : Addr) (xs : List Int), vs = [.ref a] ∧ H a = some (.ins c.Amounts dx (amF u)) ∧ H u = some (.tup (xs.map V.int)) ∧ xs.length ≤ 3 ∧ ∀ H', Ext H H' → Q (.int (xs.map fun x => if x < 0 then -x else x).sum) H'
def sp_Amounts_of (c : Ad) : Sp := fun vs H Q E => vs.length = 2 ∧ ∃ (a d : Addr) (o : Obj) (kinds ks : List Str) (xs : List Int), vs = [.ref a, .ref d] ∧ H a = some (.tup (kinds.map V.str)) ∧ H d = some (.frz o (.dK (kwD ks (xs.map V.int)))) ∧ ks.length = xs.length ∧ ks.length ≤ 3 ∧ 1 ≤ kinds.length ∧ kinds.length ≤ 3 ∧ (ks.find? (fun k => !decide (k ∈ kinds)) = none → ∀ x dx' w H', H x = none → Ext H H' → H' x = some (.ins c.Amounts dx' (amF w)) → H' w = some (.tup ((kinds.map (lk ks xs)).map V.int)) → Q (.ref x) H') ∧ (∀ k, ks.find? (fun k => !decide (k ∈ kinds)) = some k → ∀ dd H', Ext H H' → H' dd = some (.xd (subj (.str k))) → E (.ref c.Unknown) (some dd) H')
def sp__law_number (c : Ad) : Sp := fun vs H Q _ => vs.length = 2 ∧ ∃ (p : Addr) (g : Nat), vs = [.ref p, .int (g : Int)] ∧ Pool H p ∧ 1 ≤ g ∧ g ≤ 10 ∧ ∀ r H', 0 ≤ r → r < 1000 ^ g → But p H H' → Pool H' p → Q (.int r) H'
def sp__law_signed (c : Ad) : Sp := fun vs H Q _ => vs.length = 2 ∧ ∃ (p : Addr) (g : Nat), vs = [.ref p, .int (g : Int)] ∧ Pool H p ∧ 1 ≤ g ∧ g ≤ 10 ∧ ∀ r H', -(1000 ^ g) < r → r < 1000 ^ g → But p H H' → Pool H' p → Q (.int r) H'
def sp__law_whole (c : Ad) : Sp := fun vs H Q _ => vs.length = 1 ∧ ∃ (i : Int), vs = [.int i] ∧ Q (.bl true) H
def sp__law_row (c : Ad) : Sp := fun vs H Q _ => vs.length = 1 ∧ ∃ (q : Addr) (ns : List Int), vs = [.ref q] ∧ H q = some (.lst (ns.map V.int)) ∧ 1 ≤ ns.length ∧ ns.length ≤ 3 ∧ ∀ x dx' w H', H x = none → Ext H H' → H' x = some (.ins c.Amounts dx' (amF w)) → H' w = some (.tup (ns.map V.int)) → Q (.ref x) H'
def sp__law_is (c : Ad) : Sp := fun vs H Q _ => vs.length = 2 ∧ ∃ (x dx u q : Addr) (ns : List Int), vs = [.ref x, .ref q] ∧ H x = some (.ins c.Amounts dx (amF u)) ∧ H u = some (.tup (ns.map V.int)) ∧ H q = some (.lst (ns.map V.int)) ∧ 1 ≤ ns.length ∧ ns.length ≤ 3 ∧ ∀ H', Ext H H' → Q (.bl true) H'
def sp__law_part (c : Ad) : Sp := fun vs H Q _ => vs.length = 2 ∧ ∃ (p : Addr) (n : Int), vs = [.ref p, .int n] ∧ Pool H p ∧ 0 ≤ n ∧ n < 1000 ^ 10 ∧ ∀ r H', 0 ≤ r → r < 1000 ^ 10 → But p H H' → Pool H' p → Q (.int r) H'
def sp__law_divided (c : Ad) : Sp := fun vs H Q E => vs.length = 4 ∧ ∃ (a dx u b dy v qa qb : Addr) (xs ys : List Int), vs = [.ref a, .ref qa, .ref b, .ref qb] ∧ H a = some (.ins c.Amounts dx (amF u)) ∧ H u = some (.tup (xs.map V.int)) ∧ H b = some (.ins c.Amounts dy (amF v)) ∧ H v = some (.tup (ys.map V.int)) ∧ H qa = some (.lst (xs.map V.int)) ∧ H qb = some (.lst (ys.map V.int)) ∧ 1 ≤ xs.length ∧ xs.length ≤ 3 ∧ ys.length ≤ 3 ∧ xs.length = ys.length ∧ (∀ i, i < xs.length → 0 ≤ xs.getD i 0 ∧ xs.getD i 0 < 1000 ^ 10) ∧ (∀ i, i < xs.length → 0 ≤ ys.getD i 0 ∧ ys.getD i 0 < 1000 ^ 10) ∧ (∃ i, i < xs.length ∧ 0 < ys.getD i 0) ∧ ∀ H', Ext H H' → Q (.bl true) H'
def sp__law_refused (c : Ad) : Sp := fun vs H Q E => vs.length = 4 ∧ ∃ (a dx u b dy v qb : Addr) (xs ys : List Int) (j : Nat), vs = [.ref a, .ref b, .ref qb, .int (j : Int)] ∧ H a = some (.ins c.Amounts dx (amF u)) ∧ H u = some (.tup (xs.map V.int)) ∧ H b = some (.ins c.Amounts dy (amF v)) ∧ H v = some (.tup (ys.map V.int)) ∧ H qb = some (.lst (ys.map V.int)) ∧ 1 ≤ xs.length ∧ xs.length ≤ 3 ∧ ys.length ≤ 3 ∧ xs.length = ys.length ∧ (∀ i, i < xs.length → 0 ≤ xs.getD i 0 ∧ xs.getD i 0 < 1000 ^ 10) ∧ (∀ i, i < xs.length → 0 ≤ ys.getD i 0 ∧ ys.getD i 0 < 1000 ^ 10) ∧ (∀ i, i < xs.length → ys.getD i 0 = 0) ∧ j < 2 ∧ ∀ H', Ext H H' → Q (.bl true) H'
def sp__law_sums (c : Ad) : Sp := fun vs H Q E => vs.length = 5 ∧ ∃ (a dx u b dy v qa qb : Addr) (xs ys : List Int) (t : Int), vs = [.ref a, .ref qa, .ref b, .ref qb, .int t] ∧ H a = some (.ins c.Amounts dx (amF u)) ∧ H u = some (.tup (xs.map V.int)) ∧ H b = some (.ins c.Amounts dy (amF v)) ∧ H v = some (.tup (ys.map V.int)) ∧ H qa = some (.lst (xs.map V.int)) ∧ H qb = some (.lst (ys.map V.int)) ∧ 1 ≤ xs.length ∧ xs.length ≤ 3 ∧ ys.length ≤ 3 ∧ xs.length = ys.length ∧ (∀ i, i < xs.length → -(1000 ^ 10) < xs.getD i 0 ∧ xs.getD i 0 < 1000 ^ 10) ∧ (-(1000 ^ 10) < t ∧ t < 1000 ^ 10) ∧ ∀ H', Ext H H' → Q (.bl true) H'
def sp__law_names (c : Ad) : Sp := fun vs H Q _ => vs.length = 1 ∧ ∃ (p : Addr), vs = [.ref p] ∧ Pool H p ∧ ∀ q (kinds : List Str) H', H q = none → 1 ≤ kinds.length → kinds.length ≤ 3 → kinds.Nodup → But p H H' → Pool H' p → H' q = some (.lst (kinds.map V.str)) → Q (.ref q) H'
def sp__law_made (c : Ad) : Sp := fun vs H Q E => vs.length = 3 ∧ ∃ (qk qg : Addr) (kinds : List Str) (x y z : Int) (j : Nat), vs = [.ref qk, .ref qg, .int (j : Int)] ∧ H qk = some (.lst (kinds.map V.str)) ∧ H qg = some (.lst [.int x, .int y, .int z]) ∧ 1 ≤ kinds.length ∧ kinds.length ≤ 3 ∧ j < 10 ∧ (∀ r q ts u dx w H', (wk j).find? (fun k => !decide (k ∈ kinds)) = none → Ext H H' → H' r = some (.lst [.ref q, .ref u]) → H' q = some (.lst (ts.map V.ref)) → Prs H' ts (wk j) ([x, y, z].take (wk j).length) → H' u = some (.ins c.Amounts dx (amF w)) → H' w = some (.tup ((kinds.map (lk (wk j) ([x, y, z].take (wk j).length))).map V.int)) → Q (.ref r) H') ∧ (∀ k, (wk j).find? (fun k => !decide (k ∈ kinds)) = some k → ∀ dd H', Ext H H' → H' dd = some (.xd (subj (.str k))) → E (.ref c.Unknown) (some dd) H')
def sp__law_asked (c : Ad) : Sp := fun vs H Q E => vs.length = 3 ∧ ∃ (qk qg : Addr) (kinds : List Str) (x y z : Int) (j : Nat), vs = [.ref qk, .ref qg, .int (j : Int)] ∧ H qk = some (.lst (kinds.map V.str)) ∧ H qg = some (.lst [.int x, .int y, .int z]) ∧ 1 ≤ kinds.length ∧ kinds.length ≤ 3 ∧ kinds.Nodup ∧ j < 10 ∧ ∀ H', Ext H H' → Q (.bl true) H'
def sp_law (c : Ad) : Sp := spLaw c.K
theorem call_draw {c : Ad} {H : Hp} {Q : VK} {E : XK} {p : Addr} {m : Int} (hp : Pool H p) (h0 : 0 < m) (h1 : m ≤ 1000000) (k : ∀ r H', 0 ≤ r → r < m → But p H H' → Pool H' p → Q (.int r) H') : sp__law_draw c [.ref p, .int m] H Q E := ⟨rfl, p, m, rfl, hp, h0, h1, k⟩
theorem call_pool {c : Ad} {H : Hp} {Q : VK} {E : XK} {a : Addr} {ns : List Int} (hS : SqL c.K H a (ns.map V.int)) (hn : ns.length ≤ 63) (hb : ∀ n ∈ ns, Builtin.Int.intBits n ≤ 1048576) (k : ∀ p H', H p = none → Ext H H' → Pool H' p → Q (.ref p) H') : sp__law_pool c [.ref a] H Q E := ⟨rfl, a, ns, rfl, hS, hn, hb, k⟩

theorem lcPool {J : It} {n : Nat} {G : Hp → Prop} {Y : Nat → Hp → V → Hp → Prop} {σ σw : L2.St} {H : Hp} {g : TG} {te : TE} {vs : List Nat} {Q : VK} (w : Walk J n G Y) [a : WipeS σ vs σw] (hn : n ≤ 1000000) {p : Addr} (hp : Pool H p) (R : Nat → V → Prop) (hG : ∀ H1, But p H H1 → G H1) (hY : ∀ i H1 x H1', Y i H1 x H1' → H1' = H1)
    (hs : ∀ i x H1 (k : VK), i < n → But p H H1 → Pool H1 p → Y i H1 x H1 → (∀ y H2, But p H1 H2 → Pool H2 p → R i y → k y H2) → g x σw H1 fun σ2 H2 => LcK vs σw te k σ2 H2)
    (hd : ∀ D ys H1, H D = none → But p H H1 → Pool H1 p → H1 D = some (.lst ys) → ys.length = n → (∀ i y, ys[i]? = some y → R i y) → Q (.ref D) H1) : rLc J g tYes te vs σ H Q := by
  obtain ⟨ps, hl⟩ := hp.lst
  exact lcB w hn hl (fun H1 => Pool H1 p) R hp (fun H1 H2 D b hS hD nD bD => hS.but bD nD) (fun H1 b _ => hG H1 b) (fun i H1 x H1' hy => by rw [hY i H1 x H1' hy]; exact Ext.rfl)
    (fun i x H1 H1' k hi b hS hy hk => by have e := hY i H1 x H1' hy; subst e; exact hs i x _ k hi b hS hy hk) hd
theorem ints_of {P : Int → Prop} : ∀ {ys : List V}, (∀ (i : Nat) (y : V), ys[i]? = some y → ∃ z, y = .int z ∧ P z) → ∃ ns : List Int, ys = ns.map V.int ∧ ∀ z ∈ ns, P z
  | [], _ => ⟨[], rfl, fun z hz => nomatch hz⟩
  | y :: ys, h => by
    obtain ⟨z, rfl, hz⟩ := h 0 y rfl
    obtain ⟨ns, rfl, hns⟩ := ints_of (ys := ys) fun i y hy => h (i + 1) y hy
    exact ⟨z :: ns, rfl, fun w hw => by rcases List.mem_cons.mp hw with rfl | hw; exact hz; exact hns w hw⟩

section
variable {c : Ad} {H : Hp} {Q : VK} {E : XK} {xs : List V}
theorem mk_am (h1 : 1 ≤ xs.length) (h3 : xs.length ≤ 3) (k : ∀ x dx u H', H x = none → Ext H H' → H' x = some (.ins c.Amounts dx (amF u)) → H' u = some (.tup xs) → Q (.ref x) H') : rMkR c.Amounts (sp_Amounts___init__ c) E xs H Q := by
  intro x dx hx hdx hne
  refine ⟨[.ref x], xs, rfl, rfl, by have := sizeLine_eq; omega, fun p hp => ⟨rfl, x, dx, p, xs, rfl, ?_, upd_same, fun _ _ H' b h' => ⟨rfl, ?_⟩, fun z => absurd ⟨h1, h3⟩ z⟩⟩
  · have np : x ≠ p := fun z => by rw [← z, upd_same] at hp; cases hp
    rw [upd_ne np, upd_same]
  · have np : x ≠ p := fun z => by rw [← z, upd_same] at hp; cases hp
    have hp' : H p = none := by
      by_cases e1 : p = x
      · exact absurd e1.symm np
      · rw [upd_ne e1] at hp
        by_cases e2 : p = dx
        · rw [e2, upd_same] at hp; cases hp
        · rw [upd_ne e2] at hp; exact hp
    refine k x dx p H' hx (fun a o z => b a o (ne_of_none z hx) ?_) h' (b p _ (Ne.symm np) upd_same)
    rw [upd_ne (ne_of_none z hp'), upd_ne (ne_of_none z hx), upd_ne (ne_of_none z hdx)]
    exact z
theorem mk_am_bad (h1 : ¬ (1 ≤ xs.length ∧ xs.length ≤ 3)) (hl : xs.length ≤ 1000) (k : ∀ u d H', Ext H H' → H' u = some (.tup xs) → H' d = some (.xd (subj (.ref u))) → E (.ref c.BadAmounts) (some d) H') : rMkR c.Amounts (sp_Amounts___init__ c) E xs H Q := by
  intro x dx hx hdx hne
  refine ⟨[.ref x], xs, rfl, rfl, by have := sizeLine_eq; omega, fun p hp => ⟨rfl, x, dx, p, xs, rfl, ?_, upd_same, fun a b => absurd ⟨a, b⟩ h1, fun _ d H' e hd => ?_⟩⟩
  · have np : x ≠ p := fun z => by rw [← z, upd_same] at hp; cases hp
    rw [upd_ne np, upd_same]
  · have np : x ≠ p := fun z => by rw [← z, upd_same] at hp; cases hp
    have hp' : H p = none := by
      by_cases e1 : p = x
      · exact absurd e1.symm np
      · rw [upd_ne e1] at hp
        by_cases e2 : p = dx
        · rw [e2, upd_same] at hp; cases hp
        · rw [upd_ne e2] at hp; exact hp
    refine k p d H' (fun a o z => e a o ?_) (e p _ upd_same) hd
    rw [upd_ne (ne_of_none z hp'), upd_ne (ne_of_none z hx), upd_ne (ne_of_none z hdx)]
    exact z
end

/-- a row and its list -/
def Row (c : Ad) (H : Hp) (x q : Addr) (ns : List Int) : Prop := ∃ dx u, H x = some (.ins c.Amounts dx (amF u)) ∧ H u = some (.tup (ns.map V.int)) ∧ H q = some (.lst (ns.map V.int))
section
variable {c : Ad} {H H' : Hp} {Q : VK} {E : XK} {x y q r p : Addr} {xs ys ns : List Int}
theorem Row.ext (h : Row c H x q ns) (e : Ext H H') : Row c H' x q ns := by
  obtain ⟨dx, u, h1, h2, h3⟩ := h
  exact ⟨dx, u, e.look h1, e.look h2, e.look h3⟩
theorem Row.but (h : Row c H x q ns) (hp : Pool H p) (b : But p H H') (nq : q ≠ p) : Row c H' x q ns := by
  obtain ⟨dx, u, h1, h2, h3⟩ := h
  obtain ⟨ps, hl⟩ := hp.lst
  exact ⟨dx, u, b.lookK hl h1 (fun hh => nomatch hh), b.lookK hl h2 (fun hh => nomatch hh), b.look nq h3⟩
theorem Row.lst (h : Row c H x q ns) : H q = some (.lst (ns.map V.int)) := by
  obtain ⟨dx, u, h1, h2, h3⟩ := h
  exact h3
theorem call_is (h : Row c H x q ns) (l1 : 1 ≤ ns.length) (l3 : ns.length ≤ 3) (k : ∀ H', Ext H H' → Q (.bl true) H') : sp__law_is c [.ref x, .ref q] H Q E := by
  obtain ⟨dx, u, h1, h2, h3⟩ := h
  exact ⟨rfl, x, dx, u, q, ns, rfl, h1, h2, h3, l1, l3, k⟩
theorem call_divided (h : Row c H x q xs) (h' : Row c H y r ys) (l1 : 1 ≤ xs.length) (l3 : xs.length ≤ 3) (hl : xs.length = ys.length) (hx : ∀ z ∈ xs, 0 ≤ z ∧ z < 1000 ^ 10) (hy : ∀ z ∈ ys, 0 ≤ z ∧ z < 1000 ^ 10) (hne : ¬ ys = List.replicate ys.length 0)
    (k : ∀ H', Ext H H' → Q (.bl true) H') : sp__law_divided c [.ref x, .ref q, .ref y, .ref r] H Q E := by
  obtain ⟨dx, u, h1, h2, h3⟩ := h
  obtain ⟨dy, v, h4, h5, h6⟩ := h'
  refine ⟨rfl, x, dx, u, y, dy, v, q, r, xs, ys, rfl, h1, h2, h4, h5, h3, h6, l1, l3, by omega, hl, fun i hi => getD_of hx hi, fun i hi => getD_of hy (by omega), ?_, k⟩
  rcases Classical.em (∃ i, i < xs.length ∧ 0 < ys.getD i 0) with h | h
  · exact h
  · refine absurd (List.eq_replicate_iff.mpr ⟨rfl, fun b hb => ?_⟩) hne
    obtain ⟨i, hi, rfl⟩ := List.mem_iff_getElem.mp hb
    have h0 := getD_of (P := fun z => 0 ≤ z ∧ z < 1000 ^ 10) hy hi
    have e : ys.getD i 0 = ys[i] := by rw [List.getD_eq_getElem?_getD, List.getElem?_eq_getElem hi]; rfl
    have : ¬ 0 < ys.getD i 0 := fun h2 => h ⟨i, by omega, h2⟩
    rw [e] at this h0
    omega
theorem call_refused {j : Nat} (h : Row c H x q xs) (h' : Row c H y r (List.replicate xs.length 0)) (l1 : 1 ≤ xs.length) (l3 : xs.length ≤ 3) (hx : ∀ z ∈ xs, 0 ≤ z ∧ z < 1000 ^ 10) (hj : j < 2) (k : ∀ H', Ext H H' → Q (.bl true) H') : sp__law_refused c [.ref x, .ref y, .ref r, .int (j : Int)] H Q E := by
  obtain ⟨dx, u, h1, h2, h3⟩ := h
  obtain ⟨dy, v, h4, h5, h6⟩ := h'
  have hz : ∀ i, i < xs.length → (List.replicate xs.length (0 : Int)).getD i 0 = 0 := fun i hi => by rw [List.getD_eq_getElem?_getD, List.getElem?_replicate, if_pos hi]; rfl
  exact ⟨rfl, x, dx, u, y, dy, v, r, xs, _, j, rfl, h1, h2, h4, h5, h6, l1, l3, by simp; omega, by simp, fun i hi => getD_of hx hi, fun i hi => by rw [hz i hi]; decide, hz, hj, k⟩
theorem call_sums {t : Int} (h : Row c H x q xs) (h' : Row c H y r ys) (l1 : 1 ≤ xs.length) (l3 : xs.length ≤ 3) (hl : xs.length = ys.length) (hx : ∀ z ∈ xs, -(1000 ^ 10) < z ∧ z < 1000 ^ 10) (ht : -(1000 ^ 10) < t ∧ t < 1000 ^ 10) (k : ∀ H', Ext H H' → Q (.bl true) H') : sp__law_sums c [.ref x, .ref q, .ref y, .ref r, .int t] H Q E := by
  obtain ⟨dx, u, h1, h2, h3⟩ := h
  obtain ⟨dy, v, h4, h5, h6⟩ := h'
  exact ⟨rfl, x, dx, u, y, dy, v, q, r, xs, ys, t, rfl, h1, h2, h4, h5, h3, h6, l1, l3, by omega, hl, fun i hi => getD_of hx hi, ht, k⟩
theorem call_asked {qk qg : Addr} {kinds : List Str} {x y z : Int} {j : Nat} (hk : H qk = some (.lst (kinds.map V.str))) (hg : H qg = some (.lst [.int x, .int y, .int z])) (l1 : 1 ≤ kinds.length) (l3 : kinds.length ≤ 3) (hn : kinds.Nodup) (hj : j < 10) (k : ∀ H', Ext H H' → Q (.bl true) H') : sp__law_asked c [.ref qk, .ref qg, .int (j : Int)] H Q E :=
  ⟨rfl, qk, qg, kinds, x, y, z, j, rfl, hk, hg, l1, l3, hn, hj, k⟩
end
theorem call_whole {c : Ad} {H : Hp} {Q : VK} {E : XK} {n : Int} (k : Q (.bl true) H) : sp__law_whole c [.int n] H Q E := ⟨rfl, n, rfl, k⟩
theorem pow_ge {g : Nat} (h : 1 ≤ g) : (1000 : Int) ≤ 1000 ^ g := by
  have := Nat.pow_le_pow_right (show 0 < 1000 by decide) h
  exact_mod_cast this
theorem pow_le {i g : Nat} (h : i ≤ g) : (1000 : Int) ^ i ≤ 1000 ^ g := by
  have := Nat.pow_le_pow_right (show 0 < 1000 by decide) h
  exact_mod_cast this

end K05
namespace K05
open PySem L2 GG PyProof.Rows
open GM
open GN
local macro_rules | `(tactic| got_up) => `(tactic| first
  | assumption
  | (refine Ext.look (by assumption) ?_; got_up)
  | (refine But.look (by assumption) (by first | assumption | (exact Ne.symm (by assumption))) ?_; got_up)
  | (refine But.lookK (by assumption) (by got_up) (by got_up) (by intro hh; cases hh)))
local macro_rules | `(tactic| mem_news) => `(tactic| first
  | ((with_reducible refine' v_ixL ?h1 ?h2 ?h3 ?_); (case h1 => with_reducible got_up); (case h2 => decide); (case h3 => with_unfolding_all rfl))
  | ((with_reducible refine' v_ixT ?h1 ?h2 ?h3 ?_); (case h1 => with_reducible got_up); (case h2 => decide); (case h3 => with_unfolding_all rfl))
  | ((with_reducible refine' r_fld ?h1 ?h2 ?h3 ?h4 ?_); (case h1 => with_reducible got_up); (case h2 => assumption); (case h3 => assumption); (case h4 => with_unfolding_all rfl))
  | ((with_reducible refine' v_mod ?h1 ?_); (case h1 => first | assumption | decide | omega))
  | ((with_reducible refine' v_mul ?h1 ?_); (case h1 => first | exact CM.left (by omega) (by omega) | exact CM.right (by omega) (by omega)))
  | ((with_reducible refine' r_tup ?h1 ?_); (case h1 => simp); intro _ _ _ _ _)
  | ((with_reducible refine' r_lst ?h1 ?_); (case h1 => simp); intro _ _ _ _ _)
  | ((with_reducible refine' v_lenL ?h1 ?_); (case h1 => with_reducible got_up))
  | ((with_reducible refine' v_lenT ?h1 ?_); (case h1 => with_reducible got_up))
  | ((with_reducible refine' g_tup ?h1 ?h2 ?_); (case h1 => with_reducible got_up); (case h2 => with_unfolding_all rfl))
  | ((with_reducible refine' r_rng1 ?h1 ?h2 ?_); (case h1 => decide); (case h2 => decide))
  | ((with_reducible refine' r_seqL ?h1 ?_); (case h1 => with_reducible got_up))
  | ((with_reducible refine' r_seqT ?h1 ?_); (case h1 => with_reducible got_up))
  | ((with_reducible refine' v_own ?h1 ?h2 ?_); (case h1 => with_reducible got_up); (case h2 => with_reducible got_up))
  | ((with_reducible refine' v_ownI ?h1 ?_); (case h1 => with_reducible got_up))
  | ((with_reducible refine' v_ownIn ?h1 ?_); (case h1 => with_reducible got_up))
  | ((with_reducible refine' v_own1 ?h1 ?_); (case h1 => with_reducible got_up))
  | ((with_reducible refine' v_ownC ?h1 ?_); (case h1 => with_reducible got_up))
  | ((with_reducible refine' v_ownB ?h1 ?_); (case h1 => with_reducible got_up))
  | ((with_reducible refine' v_ownLen ?h1 ?_); (case h1 => with_reducible got_up))
  | ((with_reducible refine' v_mt ?h1 ?h2 ?_); (case h1 => with_reducible got_up); (case h2 => with_unfolding_all rfl))
  | ((with_reducible refine' v_isO ?h1 ?h2 ?_); (case h1 => with_reducible got_up); (case h2 => assumption))
  | ((with_reducible refine' And.intro (ty_list ?h1) ?_); (case h1 => with_reducible got_up))
  | ((with_reducible refine' v_eqT2 ?h1 ?h2 ?_); (case h1 => with_reducible got_up); (case h2 => with_reducible got_up))
  | ((with_reducible refine' run_tryAs ?_); intro _ _)
  | (with_reducible refine call_whole ?_)
  | ((with_reducible refine' v_isTT ?h1 ?_); (case h1 => with_reducible got_up))
  | ((with_reducible refine' v_get ?h1 ?_); (case h1 => with_reducible got_up))
  | ((with_reducible refine' v_listT ?h1 ?_); (case h1 => with_reducible got_up); intro _ _ _ _ _)
  | ((with_reducible refine' v_listL ?h1 ?_); (case h1 => with_reducible got_up); intro _ _ _ _ _)
  | ((with_reducible refine' v_tupL ?h1 ?_); (case h1 => with_reducible got_up); intro _ _ _ _ _)
  | ((with_reducible refine' run_tryOnly ?_); intro _ _))
local macro_rules | `(tactic| end_int) => do
  let r := Lean.mkIdent `rest_
  let h := Lean.mkIdent `hrest_
  `(tactic| first | (with_reducible refine StP.h ?_) | ((with_reducible refine run_seqG ?_); intro $r:ident $h:ident) | ((with_reducible refine run_rest $r ?_); subst $h:ident) | mem_news)
local macro_rules | `(tactic| reads_via) => `(tactic| repeat' end_int)
local macro_rules | `(tactic| o_reads) => do
  let r := Lean.mkIdent `rest_
  let h := Lean.mkIdent `hrest_
  `(tactic| repeat ((fail_if_success (with_reducible refine is_if ?_)); first | (with_reducible refine St1.h ?_) | ((with_reducible refine run_seqG ?_); intro $r:ident $h:ident) | ((with_reducible refine run_rest $r ?_); subst $h:ident) | mem_news))
local macro_rules | `(tactic| end_str) => `(tactic| repeat' (first | end_int | (with_reducible refine br_yes (by first | assumption | decide | omega | (simp; done) | fail) ?_) | (with_reducible refine br_no (by first | assumption | decide | omega | (simp; done) | fail) ?_) | fail))

set_option maxHeartbeats 1000000 in
theorem ok__law_draw {P : Program} {w : World} {K : PySem.W.Frag} {mg : Str → Option Value} {base : Heap} {c : Ad} {f : Addr} {fd : FuncData} (F : Fun K "_law_draw" "_law_draw" s__law_draw f fd) (T : Txt K mg c)  :
    FnOk P w K mg base (L2N.CX P w) 1 f fd ["_law_pool_here", "_law_many"] (sp__law_draw c) := by
  refine GG.Fun.okN F sc__law_draw (fun vs H Q E h => h.1) (fun cdv ar ou sh H vs Q E hr h => ?_)
  obtain ⟨_, p, m, rfl, ⟨a, b, c, n, hs, hp, ha, hb, hc, hl⟩, hm0, hm1, k⟩ := h
  have tk := L2N.takes_of (X := cxOf (L2N.CX P w) P w K mg base ["_law_pool_here", "_law_many", "_law_first", "_law_second", "_law_found"] "_law_draw" (defScope s__law_draw) f cdv ar ou sh H E) rfl rfl rfl rfl
  refine ⟨_, (pss_cons (ps_asg (pe_op (u_add K) (pe_ix (u_ix K) (pv 0) pe_int (fun _ _ => rfl)) pe_int) (pg_sub (pv 0) pe_int u_set))
      (pss_cons (ps_if (pt_cmpR u_gt (pe_callB (c_len K) (by rfl) T.b_len (by decide +kernel) (pa_cons (pv 0) pa_nil)) pe_int (nomark _))
      (pss_cons (ps_asg (pe_op u_mod (pe_callTy c_int2 (by rfl) T.b_int (by decide +kernel) (pa_cons (pe_ix (u_ix K) (pv 0) pe_int (fun _ _ => rfl)) pa_nil)) (pv 1)) (pg_name (i := 4) sc__law_draw.nd rfl (Or.inl rfl)))
      (pss_cons (ps_asg (pe_op u_fdiv (pe_ix (u_ix K) (pv 0) pe_int (fun _ _ => rfl)) (pv 1)) (pg_sub (pv 0) pe_int u_set))
      (pss_cons (ps_if (pt_cmpR (u_eq K hr.units) (pe_ix (u_ix K) (pv 0) pe_int (fun _ _ => rfl)) pe_int (nomark _))
      (pss_one (ps_expr (pe_bmK K (pe_bm PySem.F.plainAttrs_list PySem.F.slot_list_pop PySem.F.type_list_pop m_popAt (pv 0) (pa_cons pe_int pa_nil)))))
      pss_nil)
      (pss_one (ps_ret (pv 4))))))
      pss_nil)
      (pss_cons (ps_asg (pe_op u_mod (pe_callTy c_int2 (by rfl) T.b_int (by decide +kernel) (pa_cons (pe_op (u_add K) (pe_ix (u_ix K) (pv 0) pe_int (fun _ _ => rfl)) (pe_op u_mul pe_int (pe_ix (u_ix K) (pv 0) pe_int (fun _ _ => rfl)))) pa_nil)) pe_int) (pg_name (i := 2) sc__law_draw.nd rfl (Or.inl rfl)))
      (pss_cons (ps_asg (pe_op u_mod (pe_callTy c_int2 (by rfl) T.b_int (by decide +kernel) (pa_cons (pe_op (u_add K) (pe_ix (u_ix K) (pv 0) pe_int (fun _ _ => rfl)) (pe_op u_mul (pv 2) (pv 2))) pa_nil)) pe_int) (pg_name (i := 3) sc__law_draw.nd rfl (Or.inl rfl)))
      (pss_one (ps_ret (pe_op u_mod (pe_op u_mod (pe_callTy c_int2 (by rfl) T.b_int (by decide +kernel) (pa_cons (pe_op (u_add K) (pe_op (u_add K) (pe_ix (u_ix K) (pv 0) pe_int (fun _ _ => rfl)) (pe_op u_mul pe_int (pe_ix (u_ix K) (pv 0) pe_int (fun _ _ => rfl)))) (pe_op u_mul (pv 3) (pv 3))) pa_nil)) pe_int) (pv 1)))))))), ?_⟩
  try dsimp only [L2H.cxH, cxOf, Cx.suite, Cx.tr, List.map_cons, List.map_nil]
  refine run_start (σ := [some (.ref p), some (.int m), none, none, none]) rfl ?_
  clear tk
  reads_via
  refine v_set (by got_up) (by decide) (by simp) fun H1 e1 h1 => ?_
  simp only [Int.reduceToNat, List.set_cons_succ, List.set_cons_zero] at h1
  reads_via
  refine br_d (fun c1 => ?_) (fun c1 => ?_)
  · obtain ⟨h0, hs, rfl⟩ : ∃ h0 t, hs = h0 :: t := by
      cases hs with
      | nil => simp at c1
      | cons x t => exact ⟨x, t, rfl⟩
    simp only [List.map_cons] at h1
    simp only [List.length_cons] at hl
    reads_via
    refine v_fdiv (cd_small hm0 (by omega)) ?_
    reads_via
    refine v_set (by got_up) (by decide) (by simp) fun H2 e2 h2 => ?_
    simp only [Int.reduceToNat, List.set_cons_succ, List.set_cons_zero] at h2
    reads_via
    refine br_d (fun c2 => ?_) (fun c2 => ?_)
    · reads_via
      refine v_popAt (by got_up) (by decide) (by decide) (by with_unfolding_all rfl) fun H3 e3 h3 => ?_
      simp only [Int.reduceToNat, List.eraseIdx_cons_succ, List.eraseIdx_cons_zero] at h3
      reads_via
      exact k _ _ (Int.emod_nonneg _ (by omega)) (Int.emod_lt_of_pos _ hm0) ((e1.trans e2).trans e3) ⟨a, b, c, n + 1, hs, h3, ha, hb, hc, by omega⟩
    · reads_via
      exact k _ _ (Int.emod_nonneg _ (by omega)) (Int.emod_lt_of_pos _ hm0) (e1.trans e2) ⟨a, b, c, n + 1, _ :: hs, h2, ha, hb, hc, by simp; omega⟩
  · reads_via
    exact k _ _ (Int.emod_nonneg _ (by omega)) (Int.emod_lt_of_pos _ hm0) e1 ⟨a, b, c, n + 1, hs, h1, ha, hb, hc, hl⟩
set_option maxHeartbeats 1000000 in
theorem ok__law_pool {P : Program} {w : World} {K : PySem.W.Frag} {mg : Str → Option Value} {base : Heap} {c : Ad} {f : Addr} {fd : FuncData} (F : Fun K "_law_pool" "_law_pool" s__law_pool f fd) (T : Txt K mg c)  :
    FnOk P w K mg base (L2N.CX P w) 1 f fd ["_law_script"] (sp__law_pool c) := by
  refine GG.Fun.okN F sc__law_pool (fun vs H Q E h => h.1) (fun cdv ar ou sh H vs Q E hr h => ?_)
  obtain ⟨_, a, ns, rfl, hS, hn, hb, k⟩ := h
  rw [T.kk] at hS
  have tk := L2N.takes_of (X := cxOf (L2N.CX P w) P w K mg base ["_law_script", "_law_pool_here", "_law_cell"] "_law_pool" (defScope s__law_pool) f cdv ar ou sh H E) rfl rfl rfl rfl
  refine ⟨_, (pss_cons (ps_asg (pe_lst (pa_cons pe_int (pa_cons pe_int (pa_cons pe_int (pa_cons pe_int pa_nil))))) (pg_name (i := 1) sc__law_pool.nd rfl (Or.inl rfl)))
      (pss_cons (ps_for (passes_of rfl) rfl (pi_listK K (pi_list (pv 0))) (pg_name (i := 2) sc__law_pool.nd rfl (Or.inl rfl))
      (pss_one (ps_if (pt_cmpR u_ge (pv 2) (pe_op u_pow pe_int pe_int) (nomark _))
      (pss_one (ps_expr (pe_bmK K (pe_bm PySem.F.plainAttrs_list PySem.F.slot_list_append PySem.F.type_list_append m_append (pv 1) (pa_cons (pv 2) pa_nil)))))
      (pss_cons (ps_asg (pe_op u_mod (pe_callTy c_int2 (by rfl) T.b_int (by decide +kernel) (pa_cons (pe_op (u_add K) (pe_op u_mul (pe_ix (u_ix K) (pv 1) pe_int (fun _ _ => rfl)) pe_int) (pv 2)) pa_nil)) pe_int) (pg_sub (pv 1) pe_int u_set))
      (pss_cons (ps_asg (pe_op u_mod (pe_callTy c_int2 (by rfl) T.b_int (by decide +kernel) (pa_cons (pe_op (u_add K) (pe_op u_mul (pe_ix (u_ix K) (pv 1) pe_int (fun _ _ => rfl)) pe_int) (pe_op u_mul (pv 2) (pv 2))) pa_nil)) pe_int) (pg_sub (pv 1) pe_int u_set))
      (pss_one (ps_asg (pe_op u_mod (pe_callTy c_int2 (by rfl) T.b_int (by decide +kernel) (pa_cons (pe_op (u_add K) (pe_op u_mul (pe_ix (u_ix K) (pv 1) pe_int (fun _ _ => rfl)) pe_int) (pe_op u_mul (pv 2) pe_int)) pa_nil)) pe_int) (pg_sub (pv 1) pe_int u_set))))))))
      (pss_one (ps_ret (pv 1))))), ?_⟩
  try dsimp only [L2H.cxH, cxOf, Cx.suite, Cx.tr, List.map_cons, List.map_nil]
  refine run_start (σ := [some (.ref a), none, none]) rfl ?_
  clear tk
  reads_via
  rename_i p H0 np e0 h0
  refine r_seqLK (e0.sq hS) ?_
  refine f_list (xs := ns.map V.int) (fun i σ H' => ∃ v, σ = [some (.ref a), some (.ref p), v] ∧ Ext H H' ∧ i ≤ ns.length ∧ ∃ a b c n : Int, ∃ hs : List Int, H' p = some (.lst (.int a :: .int b :: .int c :: .int n :: hs.map V.int)) ∧ (0 ≤ a ∧ a < 101) ∧ (0 ≤ b ∧ b < 103) ∧ (0 ≤ c ∧ c < 1009) ∧ hs.length ≤ i) ?_ ?_ ?_ ?_
  · exact ⟨none, rfl, e0, Nat.zero_le _, 1, 2, 3, 0, [], h0, by decide, by decide, by decide, Nat.le_refl _⟩
  · rintro i σ H' hi ⟨v, rfl, e, _⟩
    exact e.sq hS
  · rintro i x σ H' hx ⟨v, rfl, e, hi, a1, b1, c1, n1, hs, h1, ha, hb1, hc, hl⟩
    obtain ⟨z, hz, rfl⟩ : ∃ z, ns[i]? = some z ∧ x = V.int z := by
      rw [List.getElem?_map] at hx
      cases q : ns[i]? with
      | none => rw [q] at hx; cases hx
      | some z => rw [q] at hx; exact ⟨z, rfl, (Option.some.inj hx).symm⟩
    have hi' : i < ns.length := (List.getElem?_eq_some_iff.mp hz).1
    have hbz := hb z (List.mem_of_getElem? hz)
    reads_via
    refine v_pow ⟨by decide, by decide, by decide⟩ ?_
    reads_via
    refine br_d (fun c2 => ?_) (fun c2 => ?_)
    · reads_via
      refine v_append (by got_up) (by simp; omega) fun H2 e2 h2 => ?_
      reads_via
      refine ⟨_, rfl, e2.ext e np, hi', a1, b1, c1, n1, hs ++ [z], ?_, ha, hb1, hc, by simp; omega⟩
      rw [h2]
      simp
    · reads_via
      refine v_set (by got_up) (by decide) (by simp) fun H2 e2 h2 => ?_
      simp only [Int.reduceToNat, List.set_cons_succ, List.set_cons_zero] at h2
      reads_via
      refine v_mul (IntMulOk.of_bits hbz hbz) ?_
      reads_via
      refine v_set (by got_up) (by decide) (by simp) fun H3 e3 h3 => ?_
      simp only [Int.reduceToNat, List.set_cons_succ, List.set_cons_zero] at h3
      reads_via
      refine v_set (by got_up) (by decide) (by simp) fun H4 e4 h4 => ?_
      simp only [Int.reduceToNat, List.set_cons_succ, List.set_cons_zero] at h4
      reads_via
      exact ⟨_, rfl, ((e2.trans e3).trans e4).ext e np, hi', _, _, _, _, hs, h4, ⟨Int.emod_nonneg _ (by decide), Int.emod_lt_of_pos _ (by decide)⟩, ⟨Int.emod_nonneg _ (by decide), Int.emod_lt_of_pos _ (by decide)⟩, ⟨Int.emod_nonneg _ (by decide), Int.emod_lt_of_pos _ (by decide)⟩, by omega⟩
  · rintro σ H' ⟨v, rfl, e, hi, a1, b1, c1, n1, hs, h1, ha, hb1, hc, hl⟩
    reads_via
    exact k p H' np e ⟨a1, b1, c1, n1, hs, h1, ha, hb1, hc, by simp at hl; omega⟩
set_option maxHeartbeats 1000000 in
theorem ok_Amounts___init__ {P : Program} {w : World} {K : PySem.W.Frag} {mg : Str → Option Value} {base : Heap} {c : Ad} {f : Addr} {fd : FuncData} (F : Fun K "__init__" "Amounts.__init__" s_Amounts___init__ f fd) (T : Txt K mg c)  :
    FnR P w K mg base (L2N.CX P w) 1 f (star1 (sp_Amounts___init__ c)) := by
  refine GG.Fun.okStar F sc_Amounts___init__ (by intros; rfl) (by intros; rfl) (fun cdv ar ou sh H vs Q E hr h => ?_)
  obtain ⟨_, x, dx, p, xs, rfl, hx, hp, kQ, kE⟩ := h
  have hO := T.o_Amounts
  have hcl := T.o_Amounts.cl
  have hn1 := T.na_Amounts_numbers
  have tk := L2N.takes_of (X := cxOf (L2N.CX P w) P w K mg base ["self", "numbers"] "Amounts.__init__" (defScope s_Amounts___init__) f cdv ar ou sh H E) rfl rfl rfl rfl
  refine ⟨_, (pss_cons (ps_if (pt_not (pt_chain u_le u_le pe_int (pe_callB (c_len K) (by rfl) T.b_len (by decide +kernel) (pa_cons (pv 1) pa_nil)) pe_int))
      (pss_one (ps_raiseErr T.e_BadAmounts hr tk (pa_cons (pv 1) pa_nil)))
      pss_nil)
      (pss_one (ps_fldK K (ps_fld (pv 0) (pv 1) rfl)))), ?_⟩
  try dsimp only [L2H.cxH, cxOf, Cx.suite, Cx.tr, List.map_cons, List.map_nil]
  refine run_start (σ := [some (.ref x), some (.ref p)]) rfl ?_
  clear tk
  reads_via
  refine br_d (fun c1 => ?_) (fun c1 => ?_)
  · reads_via
    refine br_d (fun c2 => ?_) (fun c2 => ?_)
    · reads_via
      refine r_putF (by got_up) hcl hn1 (by show 0 < 1000; decide) (chg fun H1 e1 h1 => ?_)
      exact kQ (by omega) (by omega) H1 e1 h1
    · reads_via
      refine v_raise fun d H2 nd e2 h2 => ?_
      exact kE (by omega) d H2 e2 h2
  · reads_via
    refine v_raise fun d H2 nd e2 h2 => ?_
    exact kE (by omega) d H2 e2 h2
set_option maxHeartbeats 1000000 in
theorem ok_paired {P : Program} {w : World} {K : PySem.W.Frag} {mg : Str → Option Value} {base : Heap} {c : Ad} {f : Addr} {fd : FuncData} (F : Fun K "paired" "paired" s_paired f fd) (T : Txt K mg c)  :
    FnOk P w K mg base (L2N.CX P w) 1 f fd ["left", "right"] (sp_paired c) := by
  refine GG.Fun.okN F sc_paired (fun vs H Q E h => h.1) (fun cdv ar ou sh H vs Q E hr h => ?_)
  obtain ⟨_, a, dx, u, b, dy, v, xs, ys, rfl, ha, hu, hb, hv, l1, l2, l3, kQ, kE⟩ := h
  have hO := T.o_Amounts
  have hcl := T.o_Amounts.cl
  have hn1 := T.na_Amounts_numbers
  have tk := L2N.takes_of (X := cxOf (L2N.CX P w) P w K mg base ["left", "right"] "paired" (defScope s_paired) f cdv ar ou sh H E) rfl rfl rfl rfl
  refine ⟨_, (pss_cons (ps_if (pt_cmpR (u_ne K hr.units) (pe_callB (c_len K) (by rfl) T.b_len (by decide +kernel) (pa_cons (pe_fldK K (pe_fld (pv 0) rfl)) pa_nil)) (pe_callB (c_len K) (by rfl) T.b_len (by decide +kernel) (pa_cons (pe_fldK K (pe_fld (pv 1) rfl)) pa_nil)) (nomark _))
      (pss_one (ps_raiseErr T.e_BadAmounts hr tk (pa_cons (pe_fldK K (pe_fld (pv 1) rfl)) pa_nil)))
      pss_nil)
      (pss_one (ps_ret (pe_zipLK K (pe_zipL rfl (by rfl) T.b_list (by rfl) T.b_zip (pa_cons (pe_fldK K (pe_fld (pv 0) rfl)) (pa_cons (pe_fldK K (pe_fld (pv 1) rfl)) pa_nil))))))), ?_⟩
  try dsimp only [L2H.cxH, cxOf, Cx.suite, Cx.tr, List.map_cons, List.map_nil]
  refine run_start (σ := [some (.ref a), some (.ref b)]) rfl ?_
  clear tk
  reads_via
  simp only [List.length_map]
  refine br_d (fun c1 => ?_) (fun c1 => ?_)
  · reads_via
    refine v_zipL (by got_up) (by got_up) (by simp; omega) (by have := sizeLine_eq; simp; omega) fun q ts H1 nq e1 hq pr => ?_
    have hl := pr.length
    rw [List.length_zip, List.length_map, List.length_map] at hl
    refine kQ (by omega) q ts H1 nq e1 hq (by omega) fun i t hi ht => ?_
    have hz : (List.zip (xs.map V.int) (ys.map V.int))[i]? = some (.int (xs.getD i 0), .int (ys.getD i 0)) := by
      rw [List.getElem?_zip_eq_some]
      exact ⟨int_get hi, int_get (by omega)⟩
    obtain ⟨w, hw, rw'⟩ := paired_get pr ht
    rw [hz] at hw
    cases hw
    exact rw'
  · reads_via
    refine v_raise fun d H2 nd e2 h2 => ?_
    exact kE (by omega) d H2 e2 h2
set_option maxHeartbeats 1000000 in
theorem ok_Amounts___abs__ {P : Program} {w : World} {K : PySem.W.Frag} {mg : Str → Option Value} {base : Heap} {c : Ad} {f : Addr} {fd : FuncData} (F : Fun K "__abs__" "Amounts.__abs__" s_Amounts___abs__ f fd) (T : Txt K mg c)  :
    FnOk P w K mg base (L2N.CX P w) 1 f fd ["self"] (sp_Amounts___abs__ c) := by
  refine GG.Fun.okN F sc_Amounts___abs__ (fun vs H Q E h => h.1) (fun cdv ar ou sh H vs Q E hr h => ?_)
  obtain ⟨_, a, dx, u, xs, rfl, ha, hu, l3, k⟩ := h
  have hO := T.o_Amounts
  have hcl := T.o_Amounts.cl
  have hn1 := T.na_Amounts_numbers
  have tk := L2N.takes_of (X := cxOf (L2N.CX P w) P w K mg base ["self", "number"] "Amounts.__abs__" (defScope s_Amounts___abs__) f cdv ar ou sh H E) rfl rfl rfl rfl
  refine ⟨_, (pss_one (ps_ret (pe_callB (c_sum K rfl) (by rfl) T.b_sum (by decide +kernel) (pa_cons (pe_lcV [1] (pe_lc (own := [("number", 1)]) (by rfl) sc_Amounts___abs__.nd (pi_tupK K (pi_tup (pe_fldK K (pe_fld (pv 0) rfl)))) (blkOk_by (own := [("number", 1)]) (N := ["self", "number"]) (sc := defScope s_Amounts___abs__) (by decide +kernel)) (fun _ _ _ _ _ => (pg_name (i := 1) sc_Amounts___abs__.nd rfl (Or.inl rfl))) (fun _ _ _ _ _ => pts_nil) (fun _ _ _ _ _ => (pe_callB c_abs (by rfl) T.b_abs (by decide +kernel) (pa_cons (pv 1) pa_nil))))) pa_nil)))), ?_⟩
  try dsimp only [L2H.cxH, cxOf, Cx.suite, Cx.tr, List.map_cons, List.map_nil]
  refine run_start (σ := [some (.ref a), none]) rfl ?_
  clear tk
  reads_via
  refine lcPT (by got_up) (by simp; omega) (fun i => .int ((fun x => if x < 0 then -x else x) (xs.getD i 0))) (fun i x H2 k hx e2 hk => ?_) fun D H2 nD e2 h2 => ?_
  · obtain ⟨hi, rfl⟩ := int_at hx
    reads_via
    exact hk _ Ext.rfl
  rw [List.length_map, rng_map fun x => if x < 0 then -x else x] at h2
  reads_via
  refine v_sum (by got_up) ?_
  exact k H2 e2
set_option maxHeartbeats 1000000 in
theorem ok__law_whole {P : Program} {w : World} {K : PySem.W.Frag} {mg : Str → Option Value} {base : Heap} {c : Ad} {f : Addr} {fd : FuncData} (F : Fun K "_law_whole" "_law_whole" s__law_whole f fd) (T : Txt K mg c)  :
    FnOk P w K mg base (L2N.CX P w) 1 f fd ["_law_value"] (sp__law_whole c) := by
  refine GG.Fun.okN F sc__law_whole (fun vs H Q E h => h.1) (fun cdv ar ou sh H vs Q E hr h => ?_)
  obtain ⟨_, i, rfl, k⟩ := h
  have tk := L2N.takes_of (X := cxOf (L2N.CX P w) P w K mg base ["_law_value"] "_law_whole" (defScope s__law_whole) f cdv ar ou sh H E) rfl rfl rfl rfl
  refine ⟨_, (pss_one (ps_ret (pe_and (pe_callB (c_isi K) (by rfl) T.b_isinstance (by decide +kernel) (pa_cons (pv 0) (pa_cons (pe_bltn (v := .ty "int") rfl T.b_int (by decide +kernel) rfl) pa_nil))) (pe_one (pe_not (pe_callB (c_isi K) (by rfl) T.b_isinstance (by decide +kernel) (pa_cons (pv 0) (pa_cons (pe_bltn (v := .ty "bool") rfl T.b_bool (by decide +kernel) rfl) pa_nil)))))))), ?_⟩
  try dsimp only [L2H.cxH, cxOf, Cx.suite, Cx.tr, List.map_cons, List.map_nil]
  refine run_start (σ := [some (.int i)]) rfl ?_
  clear tk
  reads_via
  exact k
set_option maxHeartbeats 1000000 in
theorem ok_Amounts___floordiv__ {P : Program} {w : World} {K : PySem.W.Frag} {mg : Str → Option Value} {base : Heap} {c : Ad} {f : Addr} {fd : FuncData} (F : Fun K "__floordiv__" "Amounts.__floordiv__" s_Amounts___floordiv__ f fd) (T : Txt K mg c) (F_paired : Fn P w K mg base "paired" 1 ["left", "right"] [] (sp_paired c)) :
    FnOk P w K mg base (L2N.CX P w) 2 f fd ["self", "other"] (sp_Amounts___floordiv__ c) := by
  refine GG.Fun.okN F sc_Amounts___floordiv__ (fun vs H Q E h => h.1) (fun cdv ar ou sh H vs Q E hr h => ?_)
  obtain ⟨_, a, dx, u, b, dy, v, xs, ys, rfl, ha, hu, hb, hv, l1, l2, l3, hl, hnx, hny, kQ, kE⟩ := h
  have hO := T.o_Amounts
  have hcl := T.o_Amounts.cl
  have hn1 := T.na_Amounts_numbers
  have tk := L2N.takes_of (X := cxOf (L2N.CX P w) P w K mg base ["self", "other", "counts", "one", "two"] "Amounts.__floordiv__" (defScope s_Amounts___floordiv__) f cdv ar ou sh H E) rfl rfl rfl rfl
  refine ⟨_, (pss_cons (ps_lcV [3, 4] (ps_setLc (i := 2) (own := [("one", 3), ("two", 4)])  (by rfl) sc_Amounts___floordiv__.nd rfl rfl (sw_true rfl rfl rfl (by decide +kernel)) (pi_listK K (pi_list (pe_fn F_paired (hr.mono (by decide)) (ps_of tk) (pa_cons (pv 0) (pa_cons (pv 1) pa_nil))))) (blkOk_by (own := [("one", 3), ("two", 4)]) (N := ["self", "other", "counts", "one", "two"]) (sc := defScope s_Amounts___floordiv__) (by decide +kernel)) (fun _ _ _ _ _ => (pg_tupK K (n := 2) (pg_tup (n := 2) (by rfl) (pgs_cons (pg_name (i := 3) sc_Amounts___floordiv__.nd rfl (Or.inl rfl)) (pgs_cons (pg_name (i := 4) sc_Amounts___floordiv__.nd rfl (Or.inl rfl)) pgs_nil))))) (fun _ _ _ _ _ => (pts_one (pt_cmpR u_gt (pv 4) pe_int (nomark _)))) (fun _ _ _ _ _ => (pe_op u_fdiv (pv 3) (pv 4)))))
      (pss_cons (ps_if (pt_not (pt_tru K (pv 2) (by intro _; rfl)))
      (pss_one (ps_raiseErr T.e_BadAmounts hr tk (pa_cons (pe_fldK K (pe_fld (pv 1) rfl)) pa_nil)))
      pss_nil)
      (pss_one (ps_ret (pe_callB (c_min1 K rfl) (by rfl) T.b_min (by decide +kernel) (pa_cons (pv 2) pa_nil)))))), ?_⟩
  try dsimp only [L2H.cxH, cxOf, Cx.suite, Cx.tr, List.map_cons, List.map_nil]
  refine run_start (σ := [some (.ref a), some (.ref b), none, none, none]) rfl ?_
  clear tk
  reads_via
  refine ⟨rfl, a, dx, u, b, dy, v, xs, ys, rfl, ha, hu, hb, hv, l1, l2, l3, fun _ q ts H1 nq e1 hq htl hts => ?_, fun hne => absurd hl hne⟩
  reads_via
  refine lcW (walk_list (xs := ts.map V.ref)) (fun i acc H1' => Ext H1 H1' ∧ acc = (cnt xs ys i).map V.int) (fun H2 e2 => ⟨e2, rfl⟩) (fun i acc H2 _ h => SqL.of (h.1.look hq)) ?_ ?_
  · rintro i x D acc H2 H2' hD hi0 ⟨e2, rfl⟩ ⟨rfl, hx⟩ h1 hlen
    have hz : (cnt xs ys i).length ≤ i := cnt_len
    rw [List.getElem?_map] at hx
    obtain ⟨t, ht, rfl⟩ : ∃ t, ts[i]? = some t ∧ x = .ref t := by
      cases h : ts[i]? with
      | none => rw [h] at hx; cases hx
      | some t => rw [h] at hx; exact ⟨t, rfl, (Option.some.inj hx).symm⟩
    have hi := (List.getElem?_eq_some_iff.mp ht).1
    have h2 := e2.look (hts i t (by omega) ht)
    have hyi := hny i (by omega)
    reads_via
    refine br_d (fun c1 => ?_) (fun c1 => ?_)
    · reads_via
      refine v_fdiv (cd10 c1 hyi.2) ?_
      refine v_accK h1 (by rw [List.length_map]; omega) (by omega) fun H3 b3 => ⟨b3.ext e2 hD, ?_⟩
      rw [cnt_yes c1, List.map_append]
      rfl
    · refine ⟨_, h1, by omega, e2, ?_⟩
      rw [cnt_no c1]
  · rintro D acc H2 hD h2 hlen ⟨e2, rfl⟩
    rw [List.length_map, htl] at h2
    reads_via
    refine r_truL (by got_up) ?_
    by_cases hc : cnt xs ys xs.length = []
    · rw [hc, show (List.map V.int ([] : List Int)).isEmpty = true from rfl]
      reads_via
      refine v_raise fun d H3 nd e3 h3 => ?_
      refine kE (fun i hi => ?_) d H3 ((e1.trans e2).trans e3) h3
      by_cases h : 0 < ys.getD i 0
      · have := (cnt_mem (xs := xs)).mpr ⟨i, hi, h, rfl⟩
        rw [hc] at this
        cases this
      · have := hny i hi
        omega
    · have hemp : ((cnt xs ys xs.length).map V.int).isEmpty = false := by
        cases h : cnt xs ys xs.length with
        | nil => exact absurd h hc
        | cons x l => rfl
      rw [hemp]
      reads_via
      refine v_min1 (by got_up) (by cases h : cnt xs ys xs.length with | nil => exact absurd h hc | cons x l => simp) fun m hm hle => ?_
      obtain ⟨j, hj, h0, _⟩ := cnt_mem.mp hm
      exact kQ ⟨j, hj, h0⟩ m H2 (e1.trans e2) (quo_of hnx hny hm hle)
set_option maxHeartbeats 1000000 in
theorem ok__law_number {P : Program} {w : World} {K : PySem.W.Frag} {mg : Str → Option Value} {base : Heap} {c : Ad} {f : Addr} {fd : FuncData} (F : Fun K "_law_number" "_law_number" s__law_number f fd) (T : Txt K mg c) (F__law_draw : Fn P w K mg base "_law_draw" 1 ["_law_pool_here", "_law_many"] [] (sp__law_draw c)) :
    FnOk P w K mg base (L2N.CX P w) 2 f fd ["_law_pool_here", "_law_groups"] (sp__law_number c) := by
  refine GG.Fun.okN F sc__law_number (fun vs H Q E h => h.1) (fun cdv ar ou sh H vs Q E hr h => ?_)
  obtain ⟨_, p, g, rfl, hp, g1, g2, k⟩ := h
  have hg : (1000 : Int) ≤ 1000 ^ g := pow_ge g1
  have tk := L2N.takes_of (X := cxOf (L2N.CX P w) P w K mg base ["_law_pool_here", "_law_groups", "_law_kind", "_law_count", "_law_number_here", "_law_k", "_law_part_here"] "_law_number" (defScope s__law_number) f cdv ar ou sh H E) rfl rfl rfl rfl
  refine ⟨_, (pss_cons (ps_asg (pe_fn F__law_draw (hr.mono (by decide)) (ps_of tk) (pa_cons (pv 0) (pa_cons pe_int pa_nil))) (pg_name (i := 2) sc__law_number.nd rfl (Or.inl rfl)))
      (pss_cons (ps_if (pt_cmpR (u_eq K hr.units) (pv 2) pe_int (nomark _))
      (pss_one (ps_ret (pe_fn F__law_draw (hr.mono (by decide)) (ps_of tk) (pa_cons (pv 0) (pa_cons pe_int pa_nil)))))
      pss_nil)
      (pss_cons (ps_asg (pv 1) (pg_name (i := 3) sc__law_number.nd rfl (Or.inl rfl)))
      (pss_cons (ps_if (pt_cmpR u_gt (pv 2) pe_int (nomark _))
      (pss_one (ps_asg (pe_op (u_add K) pe_int (pe_fn F__law_draw (hr.mono (by decide)) (ps_of tk) (pa_cons (pv 0) (pa_cons (pv 1) pa_nil)))) (pg_name (i := 3) sc__law_number.nd rfl (Or.inl rfl))))
      pss_nil)
      (pss_cons (ps_asg pe_int (pg_name (i := 4) sc__law_number.nd rfl (Or.inl rfl)))
      (pss_cons (ps_for (passes_of rfl) rfl (pi_range1 (by rfl) T.b_range (pa_cons (pv 3) pa_nil)) (pg_name (i := 5) sc__law_number.nd rfl (Or.inl rfl))
      (pss_cons (ps_asg pe_int (pg_name (i := 6) sc__law_number.nd rfl (Or.inl rfl)))
      (pss_cons (ps_if (pt_cmpR u_gt (pv 2) pe_int (nomark _))
      (pss_one (ps_asg (pe_fn F__law_draw (hr.mono (by decide)) (ps_of tk) (pa_cons (pv 0) (pa_cons pe_int pa_nil))) (pg_name (i := 6) sc__law_number.nd rfl (Or.inl rfl))))
      pss_nil)
      (pss_one (ps_asg (pe_op (u_add K) (pe_op u_mul (pv 4) pe_int) (pv 6)) (pg_name (i := 4) sc__law_number.nd rfl (Or.inl rfl)))))))
      (pss_one (ps_ret (pv 4))))))))), ?_⟩
  try dsimp only [L2H.cxH, cxOf, Cx.suite, Cx.tr, List.map_cons, List.map_nil]
  refine run_start (σ := [some (.ref p), some (.int g), none, none, none, none, none]) rfl ?_
  clear tk
  reads_via
  refine call_draw hp (by decide) (by decide) fun r H1 r0 r1 e1 p1 => ?_
  reads_via
  refine br_d (fun c1 => ?_) (fun c1 => ?_)
  · reads_via
    refine call_draw p1 (by decide) (by decide) fun r2 H2 h3 h4 e2 p2 => ?_
    exact k _ _ h3 (by omega) (e1.trans e2) p2
  reads_via
  refine br_d (fun c2 => ?_) (fun c2 => ?_)
  · reads_via
    refine call_draw p1 (by omega) (by omega) fun r2 H2 h3 h4 e2 p2 => ?_
    obtain ⟨cnt, hc, hcl⟩ : ∃ n : Nat, 1 + r2 = (n : Int) ∧ n ≤ g := ⟨(1 + r2).toNat, by omega, by omega⟩
    reads_via
    rw [hc]
    refine r_rng1 (by omega) (by omega) ?_
    refine f_range0 (fun i σ H' => ∃ v4 v5 v6 N, σ = [some (.ref p), some (.int (g : Int)), some (.int r), some (.int (cnt : Int)), some (.int N), v5, v6] ∧ v4 = (0 : Int) ∧ 0 ≤ N ∧ N < 1000 ^ i ∧ But p H H' ∧ Pool H' p) ⟨0, none, none, 0, rfl, rfl, by decide, by decide, e1.trans e2, p2⟩ ?_ ?_
    · rintro i σ H3 hi ⟨v4, v5, v6, N, rfl, _, n0, n1, e3, p3⟩
      reads_via
      refine br_d (fun _ => ?_) (fun z => absurd c2 z)
      reads_via
      refine call_draw p3 (by decide) (by decide) fun r3 H4 h5 h6 e4 p4 => ?_
      reads_via
      exact ⟨0, _, _, _, rfl, rfl, by omega, by rw [Int.pow_succ]; omega, e3.trans e4, p4⟩
    · rintro σ H3 ⟨v4, v5, v6, N, rfl, _, n0, n1, e3, p3⟩
      reads_via
      exact k _ _ n0 (Int.lt_of_lt_of_le n1 (pow_le (by omega))) e3 p3
  · reads_via
    refine r_rng1 (by omega) (by omega) ?_
    refine f_range0 (fun i σ H' => ∃ v5 v6 N, σ = [some (.ref p), some (.int (g : Int)), some (.int r), some (.int (g : Int)), some (.int N), v5, v6] ∧ 0 ≤ N ∧ N < 1000 ^ i ∧ But p H H' ∧ Pool H' p) ⟨none, none, 0, rfl, by decide, by decide, e1, p1⟩ ?_ ?_
    · rintro i σ H3 hi ⟨v5, v6, N, rfl, n0, n1, e3, p3⟩
      reads_via
      refine br_d (fun z => absurd z c2) (fun _ => ?_)
      reads_via
      exact ⟨_, _, _, rfl, by omega, by rw [Int.pow_succ]; omega, e3, p3⟩
    · rintro σ H3 ⟨v5, v6, N, rfl, n0, n1, e3, p3⟩
      reads_via
      exact k _ _ n0 (Int.lt_of_lt_of_le n1 (pow_le (by omega))) e3 p3
set_option maxHeartbeats 1000000 in
theorem ok__law_is {P : Program} {w : World} {K : PySem.W.Frag} {mg : Str → Option Value} {base : Heap} {c : Ad} {f : Addr} {fd : FuncData} (F : Fun K "_law_is" "_law_is" s__law_is f fd) (T : Txt K mg c) (F__law_whole : Fn P w K mg base "_law_whole" 1 ["_law_value"] [] (sp__law_whole c)) :
    FnOk P w K mg base (L2N.CX P w) 2 f fd ["_law_row_here", "_law_numbers"] (sp__law_is c) := by
  refine GG.Fun.okN F sc__law_is (fun vs H Q E h => h.1) (fun cdv ar ou sh H vs Q E hr h => ?_)
  obtain ⟨_, x, dx, u, q, ns, rfl, hx, hu, hq, l1, l3, k⟩ := h
  have hO := T.o_Amounts
  have hcl := T.o_Amounts.cl
  have hn1 := T.na_Amounts_numbers
  have tk := L2N.takes_of (X := cxOf (L2N.CX P w) P w K mg base ["_law_row_here", "_law_numbers", "_law_number_here"] "_law_is" (defScope s__law_is) f cdv ar ou sh H E) rfl rfl rfl rfl
  refine ⟨_, (pss_cons (ps_if (PW.pt (pw_or (pt_not (pt_tru K (pe_callB (c_isi K) (by rfl) T.b_isinstance (by decide +kernel) (pa_cons (pv 0) (pa_cons (pe_glob (v := .ref c.Amounts) rfl T.g_Amounts rfl) pa_nil))) (by intro _; rfl))) (pw_or (pt_not (pt_tru K (pe_callB (c_isi K) (by rfl) T.b_isinstance (by decide +kernel) (pa_cons (pe_fldK K (pe_fld (pv 0) rfl)) (pa_cons (pe_bltn (v := .ty "tuple") rfl T.b_tuple (by decide +kernel) rfl) pa_nil))) (by intro _; rfl))) (pw_or1 (pt_cmpR (u_ne K hr.units) (pe_callTy (c_list K) (by rfl) T.b_list (by decide +kernel) (pa_cons (pe_fldK K (pe_fld (pv 0) rfl)) pa_nil)) (pv 1) (nomark _))))))
      (pss_one (ps_ret pe_bl))
      pss_nil)
      (pss_cons (ps_for (passes_of rfl) rfl (pi_tupK K (pi_tup (pe_fldK K (pe_fld (pv 0) rfl)))) (pg_name (i := 2) sc__law_is.nd rfl (Or.inl rfl))
      (pss_one (ps_if (pt_not (pt_tru K (pe_fn F__law_whole (hr.mono (by decide)) (ps_of tk) (pa_cons (pv 2) pa_nil)) (by intro _; rfl)))
      (pss_one (ps_ret pe_bl))
      pss_nil)))
      (pss_one (ps_ret pe_bl)))), ?_⟩
  try dsimp only [L2H.cxH, cxOf, Cx.suite, Cx.tr, List.map_cons, List.map_nil]
  refine run_start (σ := [some (.ref x), some (.ref q), none]) rfl ?_
  clear tk
  reads_via
  rename_i p1 H1 np1 e1 hp1
  refine v_neLI (by got_up) (by got_up) ?_
  reads_via
  refine f_tup (xs := ns.map V.int) (fun i σ H' => ∃ v2, σ = [some (.ref x), some (.ref q), v2] ∧ Ext H H') ⟨none, rfl, e1⟩ ?_ ?_ ?_
  · rintro i σ H' hi ⟨v2, rfl, e⟩
    exact SqT.of (e.look hu)
  · rintro i z σ H' hz ⟨v2, rfl, e⟩
    obtain ⟨hi, rfl⟩ := int_at hz
    reads_via
    exact ⟨_, rfl, e⟩
  · rintro σ H' ⟨v2, rfl, e⟩
    reads_via
    exact k _ e
def L36 : List Nat := [97, 98, 99, 100, 101, 102, 103, 104, 105, 106, 107, 108, 109, 110, 111, 112, 113, 114, 115, 116, 117, 118, 119, 120, 121, 122, 48, 49, 50, 51, 52, 53, 54, 55, 56, 57]
theorem l36 : Str.ofString "abcdefghijklmnopqrstuvwxyz0123456789" = S L36 := by decide +kernel
theorem l36_len : L36.length = 36 := rfl
theorem six {c1 c2 : Nat} : [Str.ofString "core", Str.ofString "fast", Str.ofString "big", Str.ofString "names", S [c1], Str.ofString "core" ++ S [c2]].Nodup := by
  rw [show Str.ofString "core" = S [99, 111, 114, 101] from by decide +kernel, show Str.ofString "fast" = S [102, 97, 115, 116] from by decide +kernel, show Str.ofString "big" = S [98, 105, 103] from by decide +kernel, show Str.ofString "names" = S [110, 97, 109, 101, 115] from by decide +kernel, S_app]
  have h : ∀ {a b : List Nat}, a ≠ b → S a ≠ S b := fun h e => h (S_inj e)
  simp only [List.nodup_cons, List.mem_cons, List.not_mem_nil, or_false, not_or, List.nodup_nil, and_true, not_false_eq_true]
  refine ⟨⟨h (by simp), h (by simp), h (by simp), h (by simp), h (by simp)⟩, ⟨h (by simp), h (by simp), h (by simp), h (by simp)⟩, ⟨h (by simp), h (by simp), h (by simp)⟩, ⟨h (by simp), h (by simp)⟩, h (by simp)⟩

set_option maxHeartbeats 4000000 in
theorem ok__law_names {P : Program} {w : World} {K : PySem.W.Frag} {mg : Str → Option Value} {base : Heap} {c : Ad} {f : Addr} {fd : FuncData} (F : Fun K "_law_names" "_law_names" s__law_names f fd) (T : Txt K mg c) (F__law_draw : Fn P w K mg base "_law_draw" 1 ["_law_pool_here", "_law_many"] [] (sp__law_draw c)) :
    FnOk P w K mg base (L2N.CX P w) 2 f fd ["_law_pool_here"] (sp__law_names c) := by
  refine GG.Fun.okN F sc__law_names (fun vs H Q E h => h.1) (fun cdv ar ou sh H vs Q E hr h => ?_)
  obtain ⟨_, p, rfl, hp, k⟩ := h
  have tk := L2N.takes_of (X := cxOf (L2N.CX P w) P w K mg base ["_law_pool_here", "_law_letters", "_law_left", "_law_kinds", "_law_k"] "_law_names" (defScope s__law_names) f cdv ar ou sh H E) rfl rfl rfl rfl
  refine ⟨_, (pss_cons (ps_asg pe_str (pg_name (i := 1) sc__law_names.nd rfl (Or.inl rfl)))
      (pss_cons (ps_asg (pe_lst (pa_cons pe_str (pa_cons pe_str (pa_cons pe_str (pa_cons pe_str (pa_cons (pe_ix (u_ix K) (pv 1) (pe_fn F__law_draw (hr.mono (by decide)) (ps_of tk) (pa_cons (pv 0) (pa_cons pe_int pa_nil))) (fun _ _ => rfl)) (pa_cons (pe_op (u_add K) pe_str (pe_ix (u_ix K) (pv 1) (pe_fn F__law_draw (hr.mono (by decide)) (ps_of tk) (pa_cons (pv 0) (pa_cons pe_int pa_nil))) (fun _ _ => rfl))) pa_nil))))))) (pg_name (i := 2) sc__law_names.nd rfl (Or.inl rfl)))
      (pss_cons (ps_asg (pe_lst pa_nil) (pg_name (i := 3) sc__law_names.nd rfl (Or.inl rfl)))
      (pss_cons (ps_for (passes_of rfl) rfl (pi_range1 (by rfl) T.b_range (pa_cons (pe_op (u_add K) pe_int (pe_fn F__law_draw (hr.mono (by decide)) (ps_of tk) (pa_cons (pv 0) (pa_cons pe_int pa_nil)))) pa_nil)) (pg_name (i := 4) sc__law_names.nd rfl (Or.inl rfl))
      (pss_one (ps_expr (pe_bmK K (pe_bm PySem.F.plainAttrs_list PySem.F.slot_list_append PySem.F.type_list_append m_append (pv 3) (pa_cons (pe_bmK K (pe_bm PySem.F.plainAttrs_list PySem.F.slot_list_pop PySem.F.type_list_pop m_popAt (pv 2) (pa_cons (pe_fn F__law_draw (hr.mono (by decide)) (ps_of tk) (pa_cons (pv 0) (pa_cons (pe_callB (c_len K) (by rfl) T.b_len (by decide +kernel) (pa_cons (pv 2) pa_nil)) pa_nil))) pa_nil))) pa_nil))))))
      (pss_one (ps_ret (pv 3))))))), ?_⟩
  try dsimp only [L2H.cxH, cxOf, Cx.suite, Cx.tr, List.map_cons, List.map_nil]
  refine run_start (σ := [some (.ref p), none, none, none, none]) rfl ?_
  clear tk
  rw [l36]
  reads_via
  refine call_draw hp (by decide) (by decide) fun r1 H1 r10 r11 b1 p1 => ?_
  obtain ⟨m1, rfl, hm1⟩ : ∃ m : Nat, r1 = (m : Int) ∧ m < 26 := ⟨r1.toNat, by omega, by omega⟩
  obtain ⟨c1, hc1⟩ : ∃ d, L36[m1]? = some d := ⟨_, List.getElem?_eq_getElem (by rw [l36_len]; omega)⟩
  reads_via
  refine v_ixS (by rw [S_len, l36_len]; decide) hc1 ?_
  reads_via
  refine call_draw p1 (by decide) (by decide) fun r2 H2 r20 r21 b2 p2 => ?_
  obtain ⟨m2, rfl, hm2⟩ : ∃ m : Nat, r2 = (m : Int) ∧ m < 36 := ⟨r2.toNat, by omega, by omega⟩
  obtain ⟨c2, hc2⟩ : ∃ d, L36[m2]? = some d := ⟨_, List.getElem?_eq_getElem (by rw [l36_len]; omega)⟩
  reads_via
  refine v_ixS (by rw [S_len, l36_len]; decide) hc2 ?_
  reads_via
  refine v_addS (by rw [show (Str.ofString "core").length = 4 from by decide +kernel]; show 4 + 1 ≤ 1000000; decide) ?_
  reads_via
  rename_i ql H3 nql e3 hql qk H4 nqk e4 hqk
  have nlp := p2.ne nql
  have p3 := p2.ext e3
  have nkp := p3.ne nqk
  have nlk : ql ≠ qk := ne_of_none hql nqk
  have p4 := p3.ext e4
  refine call_draw p4 (by decide) (by decide) fun r3 H5 r30 r31 b5 p5 => ?_
  obtain ⟨n, hn, hn1, hn3⟩ : ∃ n : Nat, 1 + r3 = (n : Int) ∧ 1 ≤ n ∧ n ≤ 3 := ⟨(1 + r3).toNat, by omega, by omega, by omega⟩
  reads_via
  rw [hn]
  refine r_rng1 (by omega) (by omega) ?_
  rw [Int.toNat_natCast]
  have bH2 : But p H H2 := b1.trans b2
  have nqlH : H ql = none := by
    cases z : H ql with
    | none => rfl
    | some o => have := bH2 ql o nlp z; rw [nql] at this; cases this
  have nqkH : H qk = none := by
    cases z : H qk with
    | none => rfl
    | some o => have := e3.look (bH2 qk o nkp z); rw [nqk] at this; cases this
  refine f_range0 (fun i σ H' => ∃ v4, σ = [some (.ref p), some (.str (S L36)), some (.ref ql), some (.ref qk), v4] ∧ But p H H' ∧ Pool H' p ∧ ∃ dn rs : List Str, H' ql = some (.lst (rs.map V.str)) ∧ H' qk = some (.lst (dn.map V.str)) ∧ (dn ++ rs).Nodup ∧ dn.length = i ∧ dn.length + rs.length = 6) ⟨none, rfl, ((bH2.exts (e3.trans e4))).trans b5, p5, [], [Str.ofString "core", Str.ofString "fast", Str.ofString "big", Str.ofString "names", S [c1], Str.ofString "core" ++ S [c2]], b5.look nlp (e4.look hql), b5.look nkp hqk, six, rfl, rfl⟩ ?_ ?_
  · rintro i σ H6 hi ⟨v4, rfl, b6, p6, dn, rs, hl6, hk6, hnd, hdl, hsum⟩
    reads_via
    refine call_draw p6 (by simp; omega) (by simp; omega) fun r7 H7 r70 r71 b7 p7 => ?_
    rw [List.length_map] at r71
    obtain ⟨m, rfl, hm⟩ : ∃ m : Nat, r7 = (m : Int) ∧ m < rs.length := ⟨r7.toNat, by omega, by omega⟩
    have hat : (rs.map V.str)[m]? = some (.str rs[m]) := by rw [List.getElem?_map, List.getElem?_eq_getElem hm]; rfl
    have hl7 := b7.look nlp hl6
    have hk7 := b7.look nkp hk6
    reads_via
    refine v_popAt hl7 (by omega) (by omega) (by rw [Int.toNat_natCast]; exact hat) fun H8 b8 h8 => ?_
    rw [Int.toNat_natCast, map_erase] at h8
    reads_via
    refine v_append (b8.look (Ne.symm nlk) hk7) (by simp; omega) fun H9 b9 h9 => ?_
    reads_via
    refine ⟨_, rfl, fun q o nq z => b9 q o (ne_of_none z nqkH) (b8 q o (ne_of_none z nqlH) ((b6.trans b7) q o nq z)), (p7.but b8 nlp).but b9 nkp, dn ++ [rs[m]], rs.eraseIdx m, b9.look nlk h8, by rw [h9]; simp, ?_, by simp [hdl], ?_⟩
    · have pm : (rs[m] :: rs.eraseIdx m).Perm rs := erase_perm hm
      rw [List.append_assoc]
      exact (List.Perm.nodup_iff (List.Perm.append_left dn pm)).mpr hnd
    · rw [List.length_append, List.length_eraseIdx, if_pos hm]
      simp
      omega
  · rintro σ H6 ⟨v4, rfl, b6, p6, dn, rs, hl6, hk6, hnd, hdl, hsum⟩
    reads_via
    exact k qk dn H6 nqkH (by omega) (by omega) (List.nodup_append.mp hnd).1 b6 p6 hk6
set_option maxHeartbeats 1000000 in
theorem ok_Amounts___sub__ {P : Program} {w : World} {K : PySem.W.Frag} {mg : Str → Option Value} {base : Heap} {c : Ad} {f : Addr} {fd : FuncData} (F : Fun K "__sub__" "Amounts.__sub__" s_Amounts___sub__ f fd) (T : Txt K mg c) (F_paired : Fn P w K mg base "paired" 1 ["left", "right"] [] (sp_paired c)) (MR_Amounts : McR P w K mg base "Amounts" c.Amounts 1 (sp_Amounts___init__ c)) :
    FnOk P w K mg base (L2N.CX P w) 3 f fd ["self", "other"] (sp_Amounts___sub__ c) := by
  refine GG.Fun.okN F sc_Amounts___sub__ (fun vs H Q E h => h.1) (fun cdv ar ou sh H vs Q E hr h => ?_)
  obtain ⟨_, a, dx, u, b, dy, v, xs, ys, rfl, ha, hu, hb, hv, l1, l2, l3, kQ, kE⟩ := h
  have hO := T.o_Amounts
  have hcl := T.o_Amounts.cl
  have hn1 := T.na_Amounts_numbers
  have tk := L2N.takes_of (X := cxOf (L2N.CX P w) P w K mg base ["self", "other", "numbers", "one", "two"] "Amounts.__sub__" (defScope s_Amounts___sub__) f cdv ar ou sh H E) rfl rfl rfl rfl
  refine ⟨_, (pss_cons (ps_lcV [3, 4] (ps_setLc (i := 2) (own := [("one", 3), ("two", 4)])  (by rfl) sc_Amounts___sub__.nd rfl rfl (sw_true rfl rfl rfl (by decide +kernel)) (pi_listK K (pi_list (pe_fn F_paired (hr.mono (by decide)) (ps_of tk) (pa_cons (pv 0) (pa_cons (pv 1) pa_nil))))) (blkOk_by (own := [("one", 3), ("two", 4)]) (N := ["self", "other", "numbers", "one", "two"]) (sc := defScope s_Amounts___sub__) (by decide +kernel)) (fun _ _ _ _ _ => (pg_tupK K (n := 2) (pg_tup (n := 2) (by rfl) (pgs_cons (pg_name (i := 3) sc_Amounts___sub__.nd rfl (Or.inl rfl)) (pgs_cons (pg_name (i := 4) sc_Amounts___sub__.nd rfl (Or.inl rfl)) pgs_nil))))) (fun _ _ _ _ _ => pts_nil) (fun _ _ _ _ _ => (pe_op u_sub (pv 3) (pv 4)))))
      (pss_one (ps_ret (pe_mkRSK K (pe_mkRS MR_Amounts (hr.mono (by decide)) (ps_of tk) (pv 2)))))), ?_⟩
  try dsimp only [L2H.cxH, cxOf, Cx.suite, Cx.tr, List.map_cons, List.map_nil]
  refine run_start (σ := [some (.ref a), some (.ref b), none, none, none]) rfl ?_
  clear tk
  reads_via
  refine ⟨rfl, a, dx, u, b, dy, v, xs, ys, rfl, ha, hu, hb, hv, l1, l2, l3, fun hl q ts H1 nq e1 hq htl hts => ?_, fun hl d H1 e1 hd => kE hl d H1 e1 hd⟩
  reads_via
  refine lcPL hq (by simp; omega) (fun i => .int ((fun x y => x - y) (xs.getD i 0) (ys.getD i 0))) (fun i x H2 k hx e2 hk => ?_) fun D H2 nD e2 h2 => ?_
  · rw [List.getElem?_map] at hx
    obtain ⟨t, ht, rfl⟩ : ∃ t, ts[i]? = some t ∧ x = .ref t := by
      cases h : ts[i]? with
      | none => rw [h] at hx; cases hx
      | some t => rw [h] at hx; exact ⟨t, rfl, (Option.some.inj hx).symm⟩
    have hi := (List.getElem?_eq_some_iff.mp ht).1
    have h2 := e2.look (hts i t (by omega) ht)
    reads_via
    exact hk _ Ext.rfl
  rw [List.length_map, htl, rng_zip (fun x y => x - y) V.int hl] at h2
  reads_via
  refine v_starL (by got_up) (mk_am (by simp; omega) (by simp; omega) fun x dx' w H3 nx e3 h3 hw => ?_)
  exact kQ hl x dx' w H3 (e1.free (e2.free nx)) ((e1.trans e2).trans e3) h3 hw
set_option maxHeartbeats 1000000 in
theorem ok_Amounts___add__ {P : Program} {w : World} {K : PySem.W.Frag} {mg : Str → Option Value} {base : Heap} {c : Ad} {f : Addr} {fd : FuncData} (F : Fun K "__add__" "Amounts.__add__" s_Amounts___add__ f fd) (T : Txt K mg c) (F_paired : Fn P w K mg base "paired" 1 ["left", "right"] [] (sp_paired c)) (MR_Amounts : McR P w K mg base "Amounts" c.Amounts 1 (sp_Amounts___init__ c)) :
    FnOk P w K mg base (L2N.CX P w) 3 f fd ["self", "other"] (sp_Amounts___add__ c) := by
  refine GG.Fun.okN F sc_Amounts___add__ (fun vs H Q E h => h.1) (fun cdv ar ou sh H vs Q E hr h => ?_)
  obtain ⟨_, a, dx, u, b, dy, v, xs, ys, rfl, ha, hu, hb, hv, l1, l2, l3, kQ, kE⟩ := h
  have hO := T.o_Amounts
  have hcl := T.o_Amounts.cl
  have hn1 := T.na_Amounts_numbers
  have tk := L2N.takes_of (X := cxOf (L2N.CX P w) P w K mg base ["self", "other", "numbers", "one", "two"] "Amounts.__add__" (defScope s_Amounts___add__) f cdv ar ou sh H E) rfl rfl rfl rfl
  refine ⟨_, (pss_cons (ps_lcV [3, 4] (ps_setLc (i := 2) (own := [("one", 3), ("two", 4)])  (by rfl) sc_Amounts___add__.nd rfl rfl (sw_true rfl rfl rfl (by decide +kernel)) (pi_listK K (pi_list (pe_fn F_paired (hr.mono (by decide)) (ps_of tk) (pa_cons (pv 0) (pa_cons (pv 1) pa_nil))))) (blkOk_by (own := [("one", 3), ("two", 4)]) (N := ["self", "other", "numbers", "one", "two"]) (sc := defScope s_Amounts___add__) (by decide +kernel)) (fun _ _ _ _ _ => (pg_tupK K (n := 2) (pg_tup (n := 2) (by rfl) (pgs_cons (pg_name (i := 3) sc_Amounts___add__.nd rfl (Or.inl rfl)) (pgs_cons (pg_name (i := 4) sc_Amounts___add__.nd rfl (Or.inl rfl)) pgs_nil))))) (fun _ _ _ _ _ => pts_nil) (fun _ _ _ _ _ => (pe_op (u_add K) (pv 3) (pv 4)))))
      (pss_one (ps_ret (pe_mkRSK K (pe_mkRS MR_Amounts (hr.mono (by decide)) (ps_of tk) (pv 2)))))), ?_⟩
  try dsimp only [L2H.cxH, cxOf, Cx.suite, Cx.tr, List.map_cons, List.map_nil]
  refine run_start (σ := [some (.ref a), some (.ref b), none, none, none]) rfl ?_
  clear tk
  reads_via
  refine ⟨rfl, a, dx, u, b, dy, v, xs, ys, rfl, ha, hu, hb, hv, l1, l2, l3, fun hl q ts H1 nq e1 hq htl hts => ?_, fun hl d H1 e1 hd => kE hl d H1 e1 hd⟩
  reads_via
  refine lcPL hq (by simp; omega) (fun i => .int ((fun x y => x + y) (xs.getD i 0) (ys.getD i 0))) (fun i x H2 k hx e2 hk => ?_) fun D H2 nD e2 h2 => ?_
  · rw [List.getElem?_map] at hx
    obtain ⟨t, ht, rfl⟩ : ∃ t, ts[i]? = some t ∧ x = .ref t := by
      cases h : ts[i]? with
      | none => rw [h] at hx; cases hx
      | some t => rw [h] at hx; exact ⟨t, rfl, (Option.some.inj hx).symm⟩
    have hi := (List.getElem?_eq_some_iff.mp ht).1
    have h2 := e2.look (hts i t (by omega) ht)
    reads_via
    exact hk _ Ext.rfl
  rw [List.length_map, htl, rng_zip (fun x y => x + y) V.int hl] at h2
  reads_via
  refine v_starL (by got_up) (mk_am (by simp; omega) (by simp; omega) fun x dx' w H3 nx e3 h3 hw => ?_)
  exact kQ hl x dx' w H3 (e1.free (e2.free nx)) ((e1.trans e2).trans e3) h3 hw
set_option maxHeartbeats 1000000 in
theorem ok_Amounts___mul__ {P : Program} {w : World} {K : PySem.W.Frag} {mg : Str → Option Value} {base : Heap} {c : Ad} {f : Addr} {fd : FuncData} (F : Fun K "__mul__" "Amounts.__mul__" s_Amounts___mul__ f fd) (T : Txt K mg c) (MR_Amounts : McR P w K mg base "Amounts" c.Amounts 1 (sp_Amounts___init__ c)) :
    FnOk P w K mg base (L2N.CX P w) 3 f fd ["self", "other"] (sp_Amounts___mul__ c) := by
  refine GG.Fun.okN F sc_Amounts___mul__ (fun vs H Q E h => h.1) (fun cdv ar ou sh H vs Q E hr h => ?_)
  obtain ⟨_, a, dx, u, xs, n, rfl, ha, hu, l1, l3, hc, k⟩ := h
  have hO := T.o_Amounts
  have hcl := T.o_Amounts.cl
  have hn1 := T.na_Amounts_numbers
  have tk := L2N.takes_of (X := cxOf (L2N.CX P w) P w K mg base ["self", "other", "numbers", "number"] "Amounts.__mul__" (defScope s_Amounts___mul__) f cdv ar ou sh H E) rfl rfl rfl rfl
  refine ⟨_, (pss_cons (ps_lcV [3] (ps_setLc (i := 2) (own := [("number", 3)])  (by rfl) sc_Amounts___mul__.nd rfl rfl (sw_true rfl rfl rfl (by decide +kernel)) (pi_tupK K (pi_tup (pe_fldK K (pe_fld (pv 0) rfl)))) (blkOk_by (own := [("number", 3)]) (N := ["self", "other", "numbers", "number"]) (sc := defScope s_Amounts___mul__) (by decide +kernel)) (fun _ _ _ _ _ => (pg_name (i := 3) sc_Amounts___mul__.nd rfl (Or.inl rfl))) (fun _ _ _ _ _ => pts_nil) (fun _ _ _ _ _ => (pe_op u_mul (pv 1) (pv 3)))))
      (pss_one (ps_ret (pe_mkRSK K (pe_mkRS MR_Amounts (hr.mono (by decide)) (ps_of tk) (pv 2)))))), ?_⟩
  try dsimp only [L2H.cxH, cxOf, Cx.suite, Cx.tr, List.map_cons, List.map_nil]
  refine run_start (σ := [some (.ref a), some (.int n), none, none]) rfl ?_
  clear tk
  reads_via
  refine lcPT (by got_up) (by simp; omega) (fun i => .int ((fun x => n * x) (xs.getD i 0))) (fun i x H2 k hx e2 hk => ?_) fun D H2 nD e2 h2 => ?_
  · obtain ⟨hi, rfl⟩ := int_at hx
    reads_via
    refine v_mul (hc i hi) ?_
    exact hk _ Ext.rfl
  rw [List.length_map, rng_map fun x => n * x] at h2
  reads_via
  refine v_starL (by got_up) (mk_am (by simp; omega) (by simp; omega) fun x dx' w H3 nx e3 h3 hw => ?_)
  exact k x dx' w H3 (e2.free nx) (e2.trans e3) h3 hw
set_option maxHeartbeats 1000000 in
theorem ok_Amounts___neg__ {P : Program} {w : World} {K : PySem.W.Frag} {mg : Str → Option Value} {base : Heap} {c : Ad} {f : Addr} {fd : FuncData} (F : Fun K "__neg__" "Amounts.__neg__" s_Amounts___neg__ f fd) (T : Txt K mg c) (MR_Amounts : McR P w K mg base "Amounts" c.Amounts 1 (sp_Amounts___init__ c)) :
    FnOk P w K mg base (L2N.CX P w) 3 f fd ["self"] (sp_Amounts___neg__ c) := by
  refine GG.Fun.okN F sc_Amounts___neg__ (fun vs H Q E h => h.1) (fun cdv ar ou sh H vs Q E hr h => ?_)
  obtain ⟨_, a, dx, u, xs, rfl, ha, hu, l1, l3, k⟩ := h
  have hO := T.o_Amounts
  have hcl := T.o_Amounts.cl
  have hn1 := T.na_Amounts_numbers
  have tk := L2N.takes_of (X := cxOf (L2N.CX P w) P w K mg base ["self", "numbers", "number"] "Amounts.__neg__" (defScope s_Amounts___neg__) f cdv ar ou sh H E) rfl rfl rfl rfl
  refine ⟨_, (pss_cons (ps_lcV [2] (ps_setLc (i := 1) (own := [("number", 2)])  (by rfl) sc_Amounts___neg__.nd rfl rfl (sw_true rfl rfl rfl (by decide +kernel)) (pi_tupK K (pi_tup (pe_fldK K (pe_fld (pv 0) rfl)))) (blkOk_by (own := [("number", 2)]) (N := ["self", "numbers", "number"]) (sc := defScope s_Amounts___neg__) (by decide +kernel)) (fun _ _ _ _ _ => (pg_name (i := 2) sc_Amounts___neg__.nd rfl (Or.inl rfl))) (fun _ _ _ _ _ => pts_nil) (fun _ _ _ _ _ => (pe_un un_neg (pv 2)))))
      (pss_one (ps_ret (pe_mkRSK K (pe_mkRS MR_Amounts (hr.mono (by decide)) (ps_of tk) (pv 1)))))), ?_⟩
  try dsimp only [L2H.cxH, cxOf, Cx.suite, Cx.tr, List.map_cons, List.map_nil]
  refine run_start (σ := [some (.ref a), none, none]) rfl ?_
  clear tk
  reads_via
  refine lcPT (by got_up) (by simp; omega) (fun i => .int ((fun x => -x) (xs.getD i 0))) (fun i x H2 k hx e2 hk => ?_) fun D H2 nD e2 h2 => ?_
  · obtain ⟨hi, rfl⟩ := int_at hx
    reads_via
    exact hk _ Ext.rfl
  rw [List.length_map, rng_map fun x => -x] at h2
  reads_via
  refine v_starL (by got_up) (mk_am (by simp; omega) (by simp; omega) fun x dx' w H3 nx e3 h3 hw => ?_)
  exact k x dx' w H3 (e2.free nx) (e2.trans e3) h3 hw
set_option maxHeartbeats 1000000 in
theorem ok_Amounts_of {P : Program} {w : World} {K : PySem.W.Frag} {mg : Str → Option Value} {base : Heap} {c : Ad} {f : Addr} {fd : FuncData} (F : Fun K "of" "Amounts.of" s_Amounts_of f fd) (T : Txt K mg c) (MR_Amounts : McR P w K mg base "Amounts" c.Amounts 1 (sp_Amounts___init__ c)) :
    ∀ ks ∈ kss_Amounts_of, FnKw P w K mg base 3 f 1 ks (sp_Amounts_of c) := by
  refine GG.Fun.okKw (ps := ["resource_names"]) (pd := "named") kss_Amounts_of F sc_Amounts_of (by decide +kernel) kwb_Amounts_of (fun cdv ar ou sh H vs Q E hr h => ?_)
  obtain ⟨_, a, d, o, kinds, ks, xs, rfl, ha, hd, hlk, hk3, l1, l3, kQ, kE⟩ := h
  have tk := L2N.takes_of (X := cxOf (L2N.CX P w) P w K mg base ["resource_names", "named", "name", "numbers"] "Amounts.of" (defScope s_Amounts_of) f cdv ar ou sh H E) rfl rfl rfl rfl
  refine ⟨_, (pss_cons (ps_for (passes_of rfl) rfl (pi_keys (pv 1)) (pg_name (i := 2) sc_Amounts_of.nd rfl (Or.inl rfl))
      (pss_one (ps_if (pt_cmpR (u_notinX K) (pv 2) (pv 0) rfl)
      (pss_one (ps_raiseErr T.e_Unknown hr tk (pa_cons (pv 2) pa_nil)))
      pss_nil)))
      (pss_cons (ps_lcV [2] (ps_setLc (i := 3) (own := [("name", 2)])  (by rfl) sc_Amounts_of.nd rfl rfl (sw_true rfl rfl rfl (by decide +kernel)) (pi_tupK K (pi_tup (pv 0))) (blkOk_by (own := [("name", 2)]) (N := ["resource_names", "named", "name", "numbers"]) (sc := defScope s_Amounts_of) (by decide +kernel)) (fun _ _ _ _ _ => (pg_name (i := 2) sc_Amounts_of.nd rfl (Or.inl rfl))) (fun _ _ _ _ _ => pts_nil) (fun _ _ _ _ _ => (pe_dget2 (un1 hr.units) (pv 1) (pv 2) pe_int ⟨rfl, rfl, rfl, rfl⟩))))
      (pss_one (ps_ret (pe_mkRSK K (pe_mkRS MR_Amounts (hr.mono (by decide)) (ps_of tk) (pv 3))))))), ?_⟩
  try dsimp only [L2H.cxH, cxOf, Cx.suite, Cx.tr, List.map_cons, List.map_nil]
  refine run_start (σ := [some (.ref a), some (.ref d), none, none]) rfl ?_
  clear tk
  reads_via
  refine v_keys (by got_up) ?_
  have hkl : (kwD ks (xs.map V.int)).length = ks.length := by unfold kwD; simp; omega
  refine f_it walk_keys (fun i σ H' => ∃ v2, σ = [some (.ref a), some (.ref d), v2, none] ∧ H' = H ∧ (ks.take i).find? (fun k => !decide (k ∈ kinds)) = none) ⟨none, rfl, rfl, rfl⟩ ?_ ?_ ?_
  · rintro i σ H' hi ⟨v2, rfl, rfl, _⟩
    exact hd
  · rintro i x σ H' H2 hi ⟨v2, rfl, rfl, hf⟩ ⟨rfl, k, v, hkv, rfl⟩
    obtain ⟨y, hy, rfl⟩ := kwD_at hkv
    have hyl := (List.getElem?_eq_some_iff.mp hy).1
    have htk : ks.take (i + 1) = ks.take i ++ [y] := by rw [List.take_succ, hy]; rfl
    show gName 2 (.str y) _ _ _
    reads_via
    refine v_notinTS (by got_up) ?_
    reads_via
    refine br_d (fun c1 => ?_) (fun c1 => ?_)
    · reads_via
      refine ⟨_, rfl, rfl, ?_⟩
      rw [htk, List.find?_append, hf, List.find?_cons, decide_eq_true c1]
      rfl
    · reads_via
      refine v_raise fun dd H3 ndd e3 h3 => ?_
      refine kE y ?_ dd H3 e3 h3
      have hs : ks = ks.take (i + 1) ++ ks.drop (i + 1) := (List.take_append_drop _ _).symm
      rw [hs, htk, List.find?_append, List.find?_append, hf, List.find?_cons, decide_eq_false c1]
      rfl
  · rintro σ H' ⟨v2, rfl, rfl, hf⟩
    rw [hkl, List.take_length] at hf
    reads_via
    refine lcPT (by got_up) (by simp; omega) (fun i => .int (lk ks xs (kinds.getD i (Str.ofString "")))) (fun i x H2 k hx e2 hk => ?_) fun D H2 nD e2 h2 => ?_
    · obtain ⟨y, hy, rfl⟩ := map_at hx
      have hye : kinds.getD i (Str.ofString "") = y := by rw [List.getD_eq_getElem?_getD, hy]; rfl
      reads_via
      refine v_isD (by got_up) ?_
      reads_via
      refine v_get2 (by got_up) ?_
      rw [lk_val, ← hye]
      exact hk _ Ext.rfl
    have e4 : (List.range (kinds.map V.str).length).map (fun i => V.int (lk ks xs (kinds.getD i (Str.ofString "")))) = (kinds.map (lk ks xs)).map V.int := by
      apply List.ext_getElem?
      intro i
      rw [List.length_map, List.getElem?_map, List.getElem?_map, List.getElem?_map]
      by_cases h : i < kinds.length
      · have e : kinds.getD i (Str.ofString "") = kinds[i] := by rw [List.getD_eq_getElem?_getD, List.getElem?_eq_getElem h]; rfl
        rw [List.getElem?_range h, List.getElem?_eq_getElem h]
        simp only [Option.map_some, e]
      · rw [List.getElem?_eq_none (by simp; omega), List.getElem?_eq_none (by omega)]
        rfl
    rw [e4] at h2
    reads_via
    refine v_starL (by got_up) (mk_am (by simp; omega) (by simp; omega) fun x dx' w H3 nx e3 h3 hw => ?_)
    exact kQ hf x dx' w H3 (e2.free nx) (e2.trans e3) h3 hw
set_option maxHeartbeats 1000000 in
theorem ok__law_signed {P : Program} {w : World} {K : PySem.W.Frag} {mg : Str → Option Value} {base : Heap} {c : Ad} {f : Addr} {fd : FuncData} (F : Fun K "_law_signed" "_law_signed" s__law_signed f fd) (T : Txt K mg c) (F__law_draw : Fn P w K mg base "_law_draw" 1 ["_law_pool_here", "_law_many"] [] (sp__law_draw c)) (F__law_number : Fn P w K mg base "_law_number" 2 ["_law_pool_here", "_law_groups"] [] (sp__law_number c)) :
    FnOk P w K mg base (L2N.CX P w) 3 f fd ["_law_pool_here", "_law_groups"] (sp__law_signed c) := by
  refine GG.Fun.okN F sc__law_signed (fun vs H Q E h => h.1) (fun cdv ar ou sh H vs Q E hr h => ?_)
  obtain ⟨_, p, g, rfl, hp, g1, g2, k⟩ := h
  have tk := L2N.takes_of (X := cxOf (L2N.CX P w) P w K mg base ["_law_pool_here", "_law_groups", "_law_number_here"] "_law_signed" (defScope s__law_signed) f cdv ar ou sh H E) rfl rfl rfl rfl
  refine ⟨_, (pss_cons (ps_asg (pe_fn F__law_number (hr.mono (by decide)) (ps_of tk) (pa_cons (pv 0) (pa_cons (pv 1) pa_nil))) (pg_name (i := 2) sc__law_signed.nd rfl (Or.inl rfl)))
      (pss_one (ps_ret (pe_op u_mul (pv 2) (pe_op u_sub pe_int (pe_op u_mul pe_int (pe_fn F__law_draw (hr.mono (by decide)) (ps_of tk) (pa_cons (pv 0) (pa_cons pe_int pa_nil))))))))), ?_⟩
  try dsimp only [L2H.cxH, cxOf, Cx.suite, Cx.tr, List.map_cons, List.map_nil]
  refine run_start (σ := [some (.ref p), some (.int g), none]) rfl ?_
  clear tk
  reads_via
  refine ⟨rfl, p, g, rfl, hp, g1, g2, fun r H1 r0 r1 e1 p1 => ?_⟩
  reads_via
  refine call_draw p1 (by decide) (by decide) fun r2 H2 h3 h4 e2 p2 => ?_
  reads_via
  have : r2 = 0 ∨ r2 = 1 := by omega
  rcases this with rfl | rfl
  · exact k _ _ (by omega) (by omega) (e1.trans e2) p2
  · exact k _ _ (by omega) (by omega) (e1.trans e2) p2
set_option maxHeartbeats 1000000 in
theorem ok__law_row {P : Program} {w : World} {K : PySem.W.Frag} {mg : Str → Option Value} {base : Heap} {c : Ad} {f : Addr} {fd : FuncData} (F : Fun K "_law_row" "_law_row" s__law_row f fd) (T : Txt K mg c) (MR_Amounts : McR P w K mg base "Amounts" c.Amounts 1 (sp_Amounts___init__ c)) :
    FnOk P w K mg base (L2N.CX P w) 3 f fd ["_law_numbers"] (sp__law_row c) := by
  refine GG.Fun.okN F sc__law_row (fun vs H Q E h => h.1) (fun cdv ar ou sh H vs Q E hr h => ?_)
  obtain ⟨_, q, ns, rfl, hq, l1, l3, k⟩ := h
  have hO := T.o_Amounts
  have hcl := T.o_Amounts.cl
  have hn1 := T.na_Amounts_numbers
  have tk := L2N.takes_of (X := cxOf (L2N.CX P w) P w K mg base ["_law_numbers"] "_law_row" (defScope s__law_row) f cdv ar ou sh H E) rfl rfl rfl rfl
  refine ⟨_, (pss_cons (ps_if (pt_cmpR (u_eq K hr.units) (pe_callB (c_len K) (by rfl) T.b_len (by decide +kernel) (pa_cons (pv 0) pa_nil)) pe_int (nomark _))
      (pss_one (ps_ret (pe_mkR MR_Amounts (hr.mono (by decide)) (ps_of tk) (pa_cons (pe_ix (u_ix K) (pv 0) pe_int (fun _ _ => rfl)) pa_nil))))
      pss_nil)
      (pss_cons (ps_if (pt_cmpR (u_eq K hr.units) (pe_callB (c_len K) (by rfl) T.b_len (by decide +kernel) (pa_cons (pv 0) pa_nil)) pe_int (nomark _))
      (pss_one (ps_ret (pe_mkR MR_Amounts (hr.mono (by decide)) (ps_of tk) (pa_cons (pe_ix (u_ix K) (pv 0) pe_int (fun _ _ => rfl)) (pa_cons (pe_ix (u_ix K) (pv 0) pe_int (fun _ _ => rfl)) pa_nil)))))
      pss_nil)
      (pss_one (ps_ret (pe_mkR MR_Amounts (hr.mono (by decide)) (ps_of tk) (pa_cons (pe_ix (u_ix K) (pv 0) pe_int (fun _ _ => rfl)) (pa_cons (pe_ix (u_ix K) (pv 0) pe_int (fun _ _ => rfl)) (pa_cons (pe_ix (u_ix K) (pv 0) pe_int (fun _ _ => rfl)) pa_nil)))))))), ?_⟩
  try dsimp only [L2H.cxH, cxOf, Cx.suite, Cx.tr, List.map_cons, List.map_nil]
  refine run_start (σ := [some (.ref q)]) rfl ?_
  clear tk
  match ns, l1, l3 with
  | [n1], _, _ =>
    simp only [List.map_cons, List.map_nil] at hq k
    end_str
    exact mk_am (by simp) (by simp) k
  | [n1, n2], _, _ =>
    simp only [List.map_cons, List.map_nil] at hq k
    end_str
    exact mk_am (by simp) (by simp) k
  | [n1, n2, n3], _, _ =>
    simp only [List.map_cons, List.map_nil] at hq k
    end_str
    exact mk_am (by simp) (by simp) k
set_option maxHeartbeats 1000000 in
theorem ok__law_part {P : Program} {w : World} {K : PySem.W.Frag} {mg : Str → Option Value} {base : Heap} {c : Ad} {f : Addr} {fd : FuncData} (F : Fun K "_law_part" "_law_part" s__law_part f fd) (T : Txt K mg c) (F__law_draw : Fn P w K mg base "_law_draw" 1 ["_law_pool_here", "_law_many"] [] (sp__law_draw c)) (F__law_number : Fn P w K mg base "_law_number" 2 ["_law_pool_here", "_law_groups"] [] (sp__law_number c)) :
    FnOk P w K mg base (L2N.CX P w) 3 f fd ["_law_pool_here", "_law_number_here"] (sp__law_part c) := by
  refine GG.Fun.okN F sc__law_part (fun vs H Q E h => h.1) (fun cdv ar ou sh H vs Q E hr h => ?_)
  obtain ⟨_, p, n, rfl, hp, n0, n1, k⟩ := h
  have tk := L2N.takes_of (X := cxOf (L2N.CX P w) P w K mg base ["_law_pool_here", "_law_number_here", "_law_way"] "_law_part" (defScope s__law_part) f cdv ar ou sh H E) rfl rfl rfl rfl
  refine ⟨_, (pss_cons (ps_asg (pe_fn F__law_draw (hr.mono (by decide)) (ps_of tk) (pa_cons (pv 0) (pa_cons pe_int pa_nil))) (pg_name (i := 2) sc__law_part.nd rfl (Or.inl rfl)))
      (pss_cons (ps_if (pt_cmpR (u_eq K hr.units) (pv 2) pe_int (nomark _))
      (pss_one (ps_ret pe_int))
      pss_nil)
      (pss_cons (ps_if (pt_cmpR (u_eq K hr.units) (pv 2) pe_int (nomark _))
      (pss_one (ps_ret (pe_fn F__law_number (hr.mono (by decide)) (ps_of tk) (pa_cons (pv 0) (pa_cons pe_int pa_nil)))))
      pss_nil)
      (pss_one (ps_ret (pe_op u_fdiv (pv 1) (pe_op (u_add K) pe_int (pe_fn F__law_draw (hr.mono (by decide)) (ps_of tk) (pa_cons (pv 0) (pa_cons pe_int pa_nil)))))))))), ?_⟩
  try dsimp only [L2H.cxH, cxOf, Cx.suite, Cx.tr, List.map_cons, List.map_nil]
  refine run_start (σ := [some (.ref p), some (.int n), none]) rfl ?_
  clear tk
  reads_via
  refine call_draw hp (by decide) (by decide) fun r H1 r0 r1 e1 p1 => ?_
  reads_via
  refine br_d (fun c1 => ?_) (fun c1 => ?_)
  · reads_via
    exact k _ _ (by omega) (by omega) e1 p1
  reads_via
  refine br_d (fun c2 => ?_) (fun c2 => ?_)
  · reads_via
    refine ⟨rfl, p, 5, rfl, p1, by decide, by decide, fun r2 H2 h3 h4 e2 p2 => ?_⟩
    exact k _ _ h3 (Int.lt_of_lt_of_le h4 (pow_le (by decide))) (e1.trans e2) p2
  · reads_via
    refine call_draw p1 (by decide) (by decide) fun r2 H2 h3 h4 e2 p2 => ?_
    reads_via
    refine v_fdiv (cd_small (by omega) (by omega)) ?_
    rw [Int.fdiv_eq_ediv_of_nonneg _ (by omega)]
    exact k _ _ (Int.ediv_nonneg n0 (by omega)) (Int.lt_of_le_of_lt (Int.ediv_le_self _ n0) n1) (e1.trans e2) p2
set_option maxHeartbeats 1000000 in
theorem ok_Amounts___mod__ {P : Program} {w : World} {K : PySem.W.Frag} {mg : Str → Option Value} {base : Heap} {c : Ad} {f : Addr} {fd : FuncData} (F : Fun K "__mod__" "Amounts.__mod__" s_Amounts___mod__ f fd) (T : Txt K mg c) (S_Amounts___sub__ : Sm P w K mg base c.Amounts "__sub__" 3 ["self", "other"] (sp_Amounts___sub__ c)) (S_Amounts___mul__ : Sm P w K mg base c.Amounts "__mul__" 3 ["self", "other"] (sp_Amounts___mul__ c)) (S_Amounts___floordiv__ : Sm P w K mg base c.Amounts "__floordiv__" 2 ["self", "other"] (sp_Amounts___floordiv__ c)) :
    FnOk P w K mg base (L2N.CX P w) 4 f fd ["self", "other"] (sp_Amounts___mod__ c) := by
  refine GG.Fun.okN F sc_Amounts___mod__ (fun vs H Q E h => h.1) (fun cdv ar ou sh H vs Q E hr h => ?_)
  obtain ⟨_, a, dx, u, b, dy, v, xs, ys, rfl, ha, hu, hb, hv, l1, l2, l3, hl, hnx, hny, kQ, kE⟩ := h
  have hO := T.o_Amounts
  have hcl := T.o_Amounts.cl
  have hn1 := T.na_Amounts_numbers
  have tk := L2N.takes_of (X := cxOf (L2N.CX P w) P w K mg base ["self", "other"] "Amounts.__mod__" (defScope s_Amounts___mod__) f cdv ar ou sh H E) rfl rfl rfl rfl
  refine ⟨_, (pss_one (ps_ret (pe_opS (op_own S_Amounts___sub__ (hr.mono (by decide)) (ps_of tk) T.sf_Amounts) (pv 0) (pe_opS (op_ownI S_Amounts___mul__ (hr.mono (by decide)) (ps_of tk) T.sf_Amounts T.ri_Amounts___mul__) (pv 1) (pe_opS (op_own S_Amounts___floordiv__ (hr.mono (by decide)) (ps_of tk) T.sf_Amounts) (pv 0) (pv 1)))))), ?_⟩
  try dsimp only [L2H.cxH, cxOf, Cx.suite, Cx.tr, List.map_cons, List.map_nil]
  refine run_start (σ := [some (.ref a), some (.ref b)]) rfl ?_
  clear tk
  reads_via
  refine ⟨rfl, a, dx, u, b, dy, v, xs, ys, rfl, ha, hu, hb, hv, l1, l2, l3, hl, hnx, hny, fun hp q H1 e1 hq => ?_, fun hz d H1 e1 hd => kE hz d H1 e1 hd⟩
  obtain ⟨q0, q1, _⟩ := id hq
  reads_via
  refine ⟨rfl, b, dy, v, ys, q, rfl, by got_up, by got_up, by omega, by omega, fun i hi => cm10 ⟨by omega, q1⟩ ⟨by have := hny i (by omega); omega, (hny i (by omega)).2⟩, fun x1 dx1 w1 H2 n2 e2 h2 hw2 => ?_⟩
  reads_via
  refine ⟨rfl, a, dx, u, x1, dx1, w1, xs, ys.map (fun x => q * x), rfl, by got_up, by got_up, by got_up, by got_up, l1, l2, by simp; omega, fun _ x2 dx2 w2 H3 n3 e3 h3 hw3 => ?_, fun hne => absurd (by simp; omega) hne⟩
  rw [List.zipWith_map_right] at hw3
  exact kQ hp q hq x2 dx2 w2 H3 (e1.free (e2.free n3)) ((e1.trans e2).trans e3) h3 hw3
set_option maxHeartbeats 1000000 in
theorem ok_Amounts___rmul__ {P : Program} {w : World} {K : PySem.W.Frag} {mg : Str → Option Value} {base : Heap} {c : Ad} {f : Addr} {fd : FuncData} (F : Fun K "__rmul__" "Amounts.__rmul__" s_Amounts___rmul__ f fd) (T : Txt K mg c) (S_Amounts___mul__ : Sm P w K mg base c.Amounts "__mul__" 3 ["self", "other"] (sp_Amounts___mul__ c)) :
    FnOk P w K mg base (L2N.CX P w) 4 f fd ["self", "other"] (sp_Amounts___rmul__ c) := by
  refine GG.Fun.okN F sc_Amounts___rmul__ (fun vs H Q E h => h.1) (fun cdv ar ou sh H vs Q E hr h => ?_)
  obtain ⟨_, a, dx, u, xs, n, rfl, ha, hu, l1, l3, hc, k⟩ := h
  have hO := T.o_Amounts
  have hcl := T.o_Amounts.cl
  have hn1 := T.na_Amounts_numbers
  have tk := L2N.takes_of (X := cxOf (L2N.CX P w) P w K mg base ["self", "other"] "Amounts.__rmul__" (defScope s_Amounts___rmul__) f cdv ar ou sh H E) rfl rfl rfl rfl
  refine ⟨_, (pss_one (ps_ret (pe_opS (op_ownI S_Amounts___mul__ (hr.mono (by decide)) (ps_of tk) T.sf_Amounts T.ri_Amounts___mul__) (pv 0) (pv 1)))), ?_⟩
  try dsimp only [L2H.cxH, cxOf, Cx.suite, Cx.tr, List.map_cons, List.map_nil]
  refine run_start (σ := [some (.ref a), some (.int n)]) rfl ?_
  clear tk
  reads_via
  exact ⟨rfl, a, dx, u, xs, n, rfl, ha, hu, l1, l3, hc, k⟩
set_option maxHeartbeats 8000000 in
theorem ok__law_made {P : Program} {w : World} {K : PySem.W.Frag} {mg : Str → Option Value} {base : Heap} {c : Ad} {f : Addr} {fd : FuncData} (F : Fun K "_law_made" "_law_made" s__law_made f fd) (T : Txt K mg c) (SK_Amounts_of : Sk P w K mg base c.Amounts "of" 3 1 kss_Amounts_of (sp_Amounts_of c)) :
    FnOk P w K mg base (L2N.CX P w) 4 f fd ["_law_kinds", "_law_given", "_law_way"] (sp__law_made c) := by
  refine GG.Fun.okN F sc__law_made (fun vs H Q E h => h.1) (fun cdv ar ou sh H vs Q E hr h => ?_)
  obtain ⟨_, qk, qg, kinds, x, y, z, j, rfl, hqk, hqg, l1, l3, hj, kQ, kE⟩ := h
  have tk := L2N.takes_of (X := cxOf (L2N.CX P w) P w K mg base ["_law_kinds", "_law_given", "_law_way", "_law_x", "_law_y", "_law_z", "_law_made_here"] "_law_made" (defScope s__law_made) f cdv ar ou sh H E) rfl rfl rfl rfl
  refine ⟨_, (pss_cons (ps_asg (pe_ix (u_ix K) (pv 1) pe_int (fun _ _ => rfl)) (pg_name (i := 3) sc__law_made.nd rfl (Or.inl rfl)))
      (pss_cons (ps_asg (pe_ix (u_ix K) (pv 1) pe_int (fun _ _ => rfl)) (pg_name (i := 4) sc__law_made.nd rfl (Or.inl rfl)))
      (pss_cons (ps_asg (pe_ix (u_ix K) (pv 1) pe_int (fun _ _ => rfl)) (pg_name (i := 5) sc__law_made.nd rfl (Or.inl rfl)))
      (pss_cons (ps_if (pt_cmpR (u_eq K hr.units) (pv 2) pe_int (nomark _))
      (pss_one (ps_ret (pe_lst (pa_cons (pe_lst pa_nil) (pa_cons (pe_sk (ks := []) SK_Amounts_of (hr.mono (by decide)) (ps_of tk) (pe_glob (v := .ref c.Amounts) rfl T.g_Amounts rfl) (pa_cons (pe_callTy (c_tuple K) (by rfl) T.b_tuple (by decide +kernel) (pa_cons (pv 0) pa_nil)) pa_nil) pk_nil (by decide +kernel)) pa_nil)))))
      pss_nil)
      (pss_cons (ps_if (pt_cmpR (u_eq K hr.units) (pv 2) pe_int (nomark _))
      (pss_one (ps_ret (pe_lst (pa_cons (pe_lst (pa_cons (pe_tup (pa_cons pe_str (pa_cons (pv 3) pa_nil))) pa_nil)) (pa_cons (pe_sk (ks := ["core"]) SK_Amounts_of (hr.mono (by decide)) (ps_of tk) (pe_glob (v := .ref c.Amounts) rfl T.g_Amounts rfl) (pa_cons (pe_callTy (c_tuple K) (by rfl) T.b_tuple (by decide +kernel) (pa_cons (pv 0) pa_nil)) pa_nil) (pk_cons (pv 3) pk_nil) (by decide +kernel)) pa_nil)))))
      pss_nil)
      (pss_cons (ps_if (pt_cmpR (u_eq K hr.units) (pv 2) pe_int (nomark _))
      (pss_one (ps_ret (pe_lst (pa_cons (pe_lst (pa_cons (pe_tup (pa_cons pe_str (pa_cons (pv 3) pa_nil))) pa_nil)) (pa_cons (pe_sk (ks := ["fast"]) SK_Amounts_of (hr.mono (by decide)) (ps_of tk) (pe_glob (v := .ref c.Amounts) rfl T.g_Amounts rfl) (pa_cons (pe_callTy (c_tuple K) (by rfl) T.b_tuple (by decide +kernel) (pa_cons (pv 0) pa_nil)) pa_nil) (pk_cons (pv 3) pk_nil) (by decide +kernel)) pa_nil)))))
      pss_nil)
      (pss_cons (ps_if (pt_cmpR (u_eq K hr.units) (pv 2) pe_int (nomark _))
      (pss_one (ps_ret (pe_lst (pa_cons (pe_lst (pa_cons (pe_tup (pa_cons pe_str (pa_cons (pv 3) pa_nil))) (pa_cons (pe_tup (pa_cons pe_str (pa_cons (pv 4) pa_nil))) pa_nil))) (pa_cons (pe_sk (ks := ["big", "core"]) SK_Amounts_of (hr.mono (by decide)) (ps_of tk) (pe_glob (v := .ref c.Amounts) rfl T.g_Amounts rfl) (pa_cons (pe_callTy (c_tuple K) (by rfl) T.b_tuple (by decide +kernel) (pa_cons (pv 0) pa_nil)) pa_nil) (pk_cons (pv 3) (pk_cons (pv 4) pk_nil)) (by decide +kernel)) pa_nil)))))
      pss_nil)
      (pss_cons (ps_if (pt_cmpR (u_eq K hr.units) (pv 2) pe_int (nomark _))
      (pss_one (ps_ret (pe_lst (pa_cons (pe_lst (pa_cons (pe_tup (pa_cons pe_str (pa_cons (pv 3) pa_nil))) (pa_cons (pe_tup (pa_cons pe_str (pa_cons (pv 4) pa_nil))) pa_nil))) (pa_cons (pe_sk (ks := ["core", "big"]) SK_Amounts_of (hr.mono (by decide)) (ps_of tk) (pe_glob (v := .ref c.Amounts) rfl T.g_Amounts rfl) (pa_cons (pe_callTy (c_tuple K) (by rfl) T.b_tuple (by decide +kernel) (pa_cons (pv 0) pa_nil)) pa_nil) (pk_cons (pv 3) (pk_cons (pv 4) pk_nil)) (by decide +kernel)) pa_nil)))))
      pss_nil)
      (pss_cons (ps_if (pt_cmpR (u_eq K hr.units) (pv 2) pe_int (nomark _))
      (pss_one (ps_ret (pe_lst (pa_cons (pe_lst (pa_cons (pe_tup (pa_cons pe_str (pa_cons (pv 3) pa_nil))) (pa_cons (pe_tup (pa_cons pe_str (pa_cons (pv 4) pa_nil))) pa_nil))) (pa_cons (pe_sk (ks := ["fast", "core"]) SK_Amounts_of (hr.mono (by decide)) (ps_of tk) (pe_glob (v := .ref c.Amounts) rfl T.g_Amounts rfl) (pa_cons (pe_callTy (c_tuple K) (by rfl) T.b_tuple (by decide +kernel) (pa_cons (pv 0) pa_nil)) pa_nil) (pk_cons (pv 3) (pk_cons (pv 4) pk_nil)) (by decide +kernel)) pa_nil)))))
      pss_nil)
      (pss_cons (ps_if (pt_cmpR (u_eq K hr.units) (pv 2) pe_int (nomark _))
      (pss_cons (ps_asg (pe_sk (ks := ["big", "fast", "core"]) SK_Amounts_of (hr.mono (by decide)) (ps_of tk) (pe_glob (v := .ref c.Amounts) rfl T.g_Amounts rfl) (pa_cons (pe_callTy (c_tuple K) (by rfl) T.b_tuple (by decide +kernel) (pa_cons (pv 0) pa_nil)) pa_nil) (pk_cons (pv 3) (pk_cons (pv 4) (pk_cons (pv 5) pk_nil))) (by decide +kernel)) (pg_name (i := 6) sc__law_made.nd rfl (Or.inl rfl)))
      (pss_one (ps_ret (pe_lst (pa_cons (pe_lst (pa_cons (pe_tup (pa_cons pe_str (pa_cons (pv 3) pa_nil))) (pa_cons (pe_tup (pa_cons pe_str (pa_cons (pv 4) pa_nil))) (pa_cons (pe_tup (pa_cons pe_str (pa_cons (pv 5) pa_nil))) pa_nil)))) (pa_cons (pv 6) pa_nil))))))
      pss_nil)
      (pss_cons (ps_if (pt_cmpR (u_eq K hr.units) (pv 2) pe_int (nomark _))
      (pss_cons (ps_asg (pe_sk (ks := ["core", "fast", "big"]) SK_Amounts_of (hr.mono (by decide)) (ps_of tk) (pe_glob (v := .ref c.Amounts) rfl T.g_Amounts rfl) (pa_cons (pe_callTy (c_tuple K) (by rfl) T.b_tuple (by decide +kernel) (pa_cons (pv 0) pa_nil)) pa_nil) (pk_cons (pv 3) (pk_cons (pv 4) (pk_cons (pv 5) pk_nil))) (by decide +kernel)) (pg_name (i := 6) sc__law_made.nd rfl (Or.inl rfl)))
      (pss_one (ps_ret (pe_lst (pa_cons (pe_lst (pa_cons (pe_tup (pa_cons pe_str (pa_cons (pv 3) pa_nil))) (pa_cons (pe_tup (pa_cons pe_str (pa_cons (pv 4) pa_nil))) (pa_cons (pe_tup (pa_cons pe_str (pa_cons (pv 5) pa_nil))) pa_nil)))) (pa_cons (pv 6) pa_nil))))))
      pss_nil)
      (pss_cons (ps_if (pt_cmpR (u_eq K hr.units) (pv 2) pe_int (nomark _))
      (pss_one (ps_ret (pe_lst (pa_cons (pe_lst (pa_cons (pe_tup (pa_cons pe_str (pa_cons (pv 3) pa_nil))) pa_nil)) (pa_cons (pe_sk (ks := ["names"]) SK_Amounts_of (hr.mono (by decide)) (ps_of tk) (pe_glob (v := .ref c.Amounts) rfl T.g_Amounts rfl) (pa_cons (pe_callTy (c_tuple K) (by rfl) T.b_tuple (by decide +kernel) (pa_cons (pv 0) pa_nil)) pa_nil) (pk_cons (pv 3) pk_nil) (by decide +kernel)) pa_nil)))))
      pss_nil)
      (pss_one (ps_ret (pe_lst (pa_cons (pe_lst (pa_cons (pe_tup (pa_cons pe_str (pa_cons (pv 3) pa_nil))) (pa_cons (pe_tup (pa_cons pe_str (pa_cons (pv 4) pa_nil))) pa_nil))) (pa_cons (pe_sk (ks := ["core", "names"]) SK_Amounts_of (hr.mono (by decide)) (ps_of tk) (pe_glob (v := .ref c.Amounts) rfl T.g_Amounts rfl) (pa_cons (pe_callTy (c_tuple K) (by rfl) T.b_tuple (by decide +kernel) (pa_cons (pv 0) pa_nil)) pa_nil) (pk_cons (pv 3) (pk_cons (pv 4) pk_nil)) (by decide +kernel)) pa_nil))))))))))))))))), ?_⟩
  try dsimp only [L2H.cxH, cxOf, Cx.suite, Cx.tr, List.map_cons, List.map_nil]
  refine run_start (σ := [some (.ref qk), some (.ref qg), some (.int (j : Int)), none, none, none, none]) rfl ?_
  clear tk
  match j, hj, kQ, kE with
  | 0, _, kQ, kE =>
    end_str
    rename_i  q H1 nq e1 hq tp H2 ntp e2 htp
    refine v_sk rfl rfl fun d o H3 nd3 e3 hd => ?_
    refine ⟨rfl, _, d, o, kinds, wk 0, [], rfl, by got_up, hd, rfl, by decide, l1, l3, fun hn am dxm wm H4 nm4 e4 hm hw => ?_, fun k hk dd H4 e4 h4 => kE k hk dd H4 (((e1.trans e2).trans e3).trans e4) h4⟩
    end_str
    rename_i r H5 nr e5 hr
    exact kQ r q [] am dxm wm H5 hn ((((e1.trans e2).trans e3).trans e4).trans e5) hr (by got_up) trivial (by got_up) (by got_up)
  | 1, _, kQ, kE =>
    end_str
    rename_i t0 H1 nt0 e1 ht0 q H2 nq e2 hq tp H3 ntp e3 htp
    refine v_sk rfl rfl fun d o H4 nd4 e4 hd => ?_
    refine ⟨rfl, _, d, o, kinds, wk 1, [x], rfl, by got_up, hd, rfl, by decide, l1, l3, fun hn am dxm wm H5 nm5 e5 hm hw => ?_, fun k hk dd H5 e5 h5 => kE k hk dd H5 ((((e1.trans e2).trans e3).trans e4).trans e5) h5⟩
    end_str
    rename_i r H6 nr e6 hr
    exact kQ r q [t0] am dxm wm H6 hn (((((e1.trans e2).trans e3).trans e4).trans e5).trans e6) hr (by got_up) ⟨by got_up, trivial⟩ (by got_up) (by got_up)
  | 2, _, kQ, kE =>
    end_str
    rename_i t0 H1 nt0 e1 ht0 q H2 nq e2 hq tp H3 ntp e3 htp
    refine v_sk rfl rfl fun d o H4 nd4 e4 hd => ?_
    refine ⟨rfl, _, d, o, kinds, wk 2, [x], rfl, by got_up, hd, rfl, by decide, l1, l3, fun hn am dxm wm H5 nm5 e5 hm hw => ?_, fun k hk dd H5 e5 h5 => kE k hk dd H5 ((((e1.trans e2).trans e3).trans e4).trans e5) h5⟩
    end_str
    rename_i r H6 nr e6 hr
    exact kQ r q [t0] am dxm wm H6 hn (((((e1.trans e2).trans e3).trans e4).trans e5).trans e6) hr (by got_up) ⟨by got_up, trivial⟩ (by got_up) (by got_up)
  | 3, _, kQ, kE =>
    end_str
    rename_i t0 H1 nt0 e1 ht0 t1 H2 nt1 e2 ht1 q H3 nq e3 hq tp H4 ntp e4 htp
    refine v_sk rfl rfl fun d o H5 nd5 e5 hd => ?_
    refine ⟨rfl, _, d, o, kinds, wk 3, [x, y], rfl, by got_up, hd, rfl, by decide, l1, l3, fun hn am dxm wm H6 nm6 e6 hm hw => ?_, fun k hk dd H6 e6 h6 => kE k hk dd H6 (((((e1.trans e2).trans e3).trans e4).trans e5).trans e6) h6⟩
    end_str
    rename_i r H7 nr e7 hr
    exact kQ r q [t0, t1] am dxm wm H7 hn ((((((e1.trans e2).trans e3).trans e4).trans e5).trans e6).trans e7) hr (by got_up) ⟨by got_up, by got_up, trivial⟩ (by got_up) (by got_up)
  | 4, _, kQ, kE =>
    end_str
    rename_i t0 H1 nt0 e1 ht0 t1 H2 nt1 e2 ht1 q H3 nq e3 hq tp H4 ntp e4 htp
    refine v_sk rfl rfl fun d o H5 nd5 e5 hd => ?_
    refine ⟨rfl, _, d, o, kinds, wk 4, [x, y], rfl, by got_up, hd, rfl, by decide, l1, l3, fun hn am dxm wm H6 nm6 e6 hm hw => ?_, fun k hk dd H6 e6 h6 => kE k hk dd H6 (((((e1.trans e2).trans e3).trans e4).trans e5).trans e6) h6⟩
    end_str
    rename_i r H7 nr e7 hr
    exact kQ r q [t0, t1] am dxm wm H7 hn ((((((e1.trans e2).trans e3).trans e4).trans e5).trans e6).trans e7) hr (by got_up) ⟨by got_up, by got_up, trivial⟩ (by got_up) (by got_up)
  | 5, _, kQ, kE =>
    end_str
    rename_i t0 H1 nt0 e1 ht0 t1 H2 nt1 e2 ht1 q H3 nq e3 hq tp H4 ntp e4 htp
    refine v_sk rfl rfl fun d o H5 nd5 e5 hd => ?_
    refine ⟨rfl, _, d, o, kinds, wk 5, [x, y], rfl, by got_up, hd, rfl, by decide, l1, l3, fun hn am dxm wm H6 nm6 e6 hm hw => ?_, fun k hk dd H6 e6 h6 => kE k hk dd H6 (((((e1.trans e2).trans e3).trans e4).trans e5).trans e6) h6⟩
    end_str
    rename_i r H7 nr e7 hr
    exact kQ r q [t0, t1] am dxm wm H7 hn ((((((e1.trans e2).trans e3).trans e4).trans e5).trans e6).trans e7) hr (by got_up) ⟨by got_up, by got_up, trivial⟩ (by got_up) (by got_up)
  | 6, _, kQ, kE =>
    end_str
    rename_i tp H1 ntp e1 htp
    refine v_sk rfl rfl fun d o H2 nd2 e2 hd => ?_
    refine ⟨rfl, _, d, o, kinds, wk 6, [x, y, z], rfl, by got_up, hd, rfl, by decide, l1, l3, fun hn am dxm wm H3 nm3 e3 hm hw => ?_, fun k hk dd H3 e3 h3 => kE k hk dd H3 ((e1.trans e2).trans e3) h3⟩
    end_str
    rename_i t0 H4 nt0 e4 ht0 t1 H5 nt1 e5 ht1 t2 H6 nt2 e6 ht2 q H7 nq e7 hq r H8 nr e8 hr
    exact kQ r q [t0, t1, t2] am dxm wm H8 hn (((((((e1.trans e2).trans e3).trans e4).trans e5).trans e6).trans e7).trans e8) hr (by got_up) ⟨by got_up, by got_up, by got_up, trivial⟩ (by got_up) (by got_up)
  | 7, _, kQ, kE =>
    end_str
    rename_i tp H1 ntp e1 htp
    refine v_sk rfl rfl fun d o H2 nd2 e2 hd => ?_
    refine ⟨rfl, _, d, o, kinds, wk 7, [x, y, z], rfl, by got_up, hd, rfl, by decide, l1, l3, fun hn am dxm wm H3 nm3 e3 hm hw => ?_, fun k hk dd H3 e3 h3 => kE k hk dd H3 ((e1.trans e2).trans e3) h3⟩
    end_str
    rename_i t0 H4 nt0 e4 ht0 t1 H5 nt1 e5 ht1 t2 H6 nt2 e6 ht2 q H7 nq e7 hq r H8 nr e8 hr
    exact kQ r q [t0, t1, t2] am dxm wm H8 hn (((((((e1.trans e2).trans e3).trans e4).trans e5).trans e6).trans e7).trans e8) hr (by got_up) ⟨by got_up, by got_up, by got_up, trivial⟩ (by got_up) (by got_up)
  | 8, _, kQ, kE =>
    end_str
    rename_i t0 H1 nt0 e1 ht0 q H2 nq e2 hq tp H3 ntp e3 htp
    refine v_sk rfl rfl fun d o H4 nd4 e4 hd => ?_
    refine ⟨rfl, _, d, o, kinds, wk 8, [x], rfl, by got_up, hd, rfl, by decide, l1, l3, fun hn am dxm wm H5 nm5 e5 hm hw => ?_, fun k hk dd H5 e5 h5 => kE k hk dd H5 ((((e1.trans e2).trans e3).trans e4).trans e5) h5⟩
    end_str
    rename_i r H6 nr e6 hr
    exact kQ r q [t0] am dxm wm H6 hn (((((e1.trans e2).trans e3).trans e4).trans e5).trans e6) hr (by got_up) ⟨by got_up, trivial⟩ (by got_up) (by got_up)
  | 9, _, kQ, kE =>
    end_str
    rename_i t0 H1 nt0 e1 ht0 t1 H2 nt1 e2 ht1 q H3 nq e3 hq tp H4 ntp e4 htp
    refine v_sk rfl rfl fun d o H5 nd5 e5 hd => ?_
    refine ⟨rfl, _, d, o, kinds, wk 9, [x, y], rfl, by got_up, hd, rfl, by decide, l1, l3, fun hn am dxm wm H6 nm6 e6 hm hw => ?_, fun k hk dd H6 e6 h6 => kE k hk dd H6 (((((e1.trans e2).trans e3).trans e4).trans e5).trans e6) h6⟩
    end_str
    rename_i r H7 nr e7 hr
    exact kQ r q [t0, t1] am dxm wm H7 hn ((((((e1.trans e2).trans e3).trans e4).trans e5).trans e6).trans e7) hr (by got_up) ⟨by got_up, by got_up, trivial⟩ (by got_up) (by got_up)
set_option maxHeartbeats 1000000 in
theorem ok__law_divided {P : Program} {w : World} {K : PySem.W.Frag} {mg : Str → Option Value} {base : Heap} {c : Ad} {f : Addr} {fd : FuncData} (F : Fun K "_law_divided" "_law_divided" s__law_divided f fd) (T : Txt K mg c) (F__law_is : Fn P w K mg base "_law_is" 2 ["_law_row_here", "_law_numbers"] [] (sp__law_is c)) (F__law_whole : Fn P w K mg base "_law_whole" 1 ["_law_value"] [] (sp__law_whole c)) (S_Amounts___mod__ : Sm P w K mg base c.Amounts "__mod__" 4 ["self", "other"] (sp_Amounts___mod__ c)) (S_Amounts___floordiv__ : Sm P w K mg base c.Amounts "__floordiv__" 2 ["self", "other"] (sp_Amounts___floordiv__ c)) :
    FnOk P w K mg base (L2N.CX P w) 5 f fd ["_law_one", "_law_a", "_law_other", "_law_b"] (sp__law_divided c) := by
  refine GG.Fun.okN F sc__law_divided (fun vs H Q E h => h.1) (fun cdv ar ou sh H vs Q E hr h => ?_)
  obtain ⟨_, a, dx, u, b, dy, v, qa, qb, xs, ys, rfl, ha, hu, hb, hv, hqa, hqb, l1, l2, l3, hl, hnx, hny, hpos, k⟩ := h
  have hO := T.o_Amounts
  have hcl := T.o_Amounts.cl
  have hn1 := T.na_Amounts_numbers
  have tk := L2N.takes_of (X := cxOf (L2N.CX P w) P w K mg base ["_law_one", "_law_a", "_law_other", "_law_b", "_law_count", "_law_more", "_law_k", "_law_rest"] "_law_divided" (defScope s__law_divided) f cdv ar ou sh H E) rfl rfl rfl rfl
  refine ⟨_, (pss_cons (ps_asg (pe_opS (op_own S_Amounts___floordiv__ (hr.mono (by decide)) (ps_of tk) T.sf_Amounts) (pv 0) (pv 2)) (pg_name (i := 4) sc__law_divided.nd rfl (Or.inr rfl)))
      (pss_cons (ps_if (PW.pt (pw_or (pt_not (pt_tru K (pe_fn F__law_whole (hr.mono (by decide)) (ps_of tk) (pa_cons (pv 4) pa_nil)) (by intro _; rfl))) (pw_or1 (pt_cmpR u_lt (pv 4) pe_int (nomark _)))))
      (pss_one (ps_ret pe_bl))
      pss_nil)
      (pss_cons (ps_asg pe_bl (pg_name (i := 5) sc__law_divided.nd rfl (Or.inl rfl)))
      (pss_cons (ps_for (passes_of rfl) rfl (pi_range1 (by rfl) T.b_range (pa_cons (pe_callB (c_len K) (by rfl) T.b_len (by decide +kernel) (pa_cons (pv 1) pa_nil)) pa_nil)) (pg_name (i := 6) sc__law_divided.nd rfl (Or.inl rfl))
      (pss_cons (ps_if (pt_cmpR u_gt (pe_op u_mul (pv 4) (pe_ix (u_ix K) (pv 3) (pv 6) (fun _ _ => rfl))) (pe_ix (u_ix K) (pv 1) (pv 6) (fun _ _ => rfl)) (nomark _))
      (pss_one (ps_ret pe_bl))
      pss_nil)
      (pss_one (ps_if (pt_cmpR u_gt (pe_op u_mul (pe_op (u_add K) (pv 4) pe_int) (pe_ix (u_ix K) (pv 3) (pv 6) (fun _ _ => rfl))) (pe_ix (u_ix K) (pv 1) (pv 6) (fun _ _ => rfl)) (nomark _))
      (pss_one (ps_asg pe_bl (pg_name (i := 5) sc__law_divided.nd rfl (Or.inl rfl))))
      pss_nil))))
      (pss_cons (ps_lcV [6] (ps_setLc (i := 7) (own := [("_law_k", 6)])  (by rfl) sc__law_divided.nd rfl rfl (sw_true rfl rfl rfl (by decide +kernel)) (pi_range1 (by rfl) T.b_range (pa_cons (pe_callB (c_len K) (by rfl) T.b_len (by decide +kernel) (pa_cons (pv 1) pa_nil)) pa_nil)) (blkOk_by (own := [("_law_k", 6)]) (N := ["_law_one", "_law_a", "_law_other", "_law_b", "_law_count", "_law_more", "_law_k", "_law_rest"]) (sc := defScope s__law_divided) (by decide +kernel)) (fun _ _ _ _ _ => (pg_name (i := 6) sc__law_divided.nd rfl (Or.inl rfl))) (fun _ _ _ _ _ => pts_nil) (fun _ _ _ _ _ => (pe_op u_sub (pe_ix (u_ix K) (pv 1) (pv 6) (fun _ _ => rfl)) (pe_op u_mul (pv 4) (pe_ix (u_ix K) (pv 3) (pv 6) (fun _ _ => rfl)))))))
      (pss_one (ps_ret (pe_and (pv 5) (pe_one (pe_fn F__law_is (hr.mono (by decide)) (ps_of tk) (pa_cons (pe_opS (op_own S_Amounts___mod__ (hr.mono (by decide)) (ps_of tk) T.sf_Amounts) (pv 0) (pv 2)) (pa_cons (pv 7) pa_nil)))))))))))), ?_⟩
  try dsimp only [L2H.cxH, cxOf, Cx.suite, Cx.tr, List.map_cons, List.map_nil]
  refine run_start (σ := [some (.ref a), some (.ref qa), some (.ref b), some (.ref qb), none, none, none, none]) rfl ?_
  clear tk
  reads_via
  refine ⟨rfl, a, dx, u, b, dy, v, xs, ys, rfl, ha, hu, hb, hv, l1, l2, l3, hl, hnx, hny, fun _ q H1 e1 hq => ?_, fun hz => by obtain ⟨i, hi, h0⟩ := hpos; have := hz i hi; omega⟩
  obtain ⟨q0, q1, q2, q3⟩ := id hq
  reads_via
  refine br_no (by omega) ?_
  reads_via
  rw [List.length_map]
  refine r_rng1 (by omega) (by omega) ?_
  refine f_range0 (fun i σ H' => ∃ m v6, σ = [some (.ref a), some (.ref qa), some (.ref b), some (.ref qb), some (.int q), some (.bl m), v6, none] ∧ H' = H1 ∧ (∀ j, j < i → xs.getD j 0 < (q + 1) * ys.getD j 0 → m = true)) ⟨false, none, rfl, rfl, fun j hj => absurd hj (by omega)⟩ ?_ ?_
  · rintro i σ H' hi ⟨m, v6, rfl, rfl, hm⟩
    rw [Int.toNat_natCast] at hi
    have y1 := hny i hi
    reads_via
    refine v_ixLn (by got_up) (int_get (by omega)) ?_
    reads_via
    refine v_mul (cm10 ⟨by omega, q1⟩ ⟨by omega, y1.2⟩) ?_
    reads_via
    refine v_ixLn (by got_up) (int_get hi) ?_
    reads_via
    refine br_no (by have := q2 i hi; omega) ?_
    reads_via
    refine v_ixLn (by got_up) (int_get (by omega)) ?_
    reads_via
    refine v_mul (CM.wide (a := 101) (b := 100) (by omega) (by omega) (by decide)) ?_
    reads_via
    refine v_ixLn (by got_up) (int_get hi) ?_
    reads_via
    refine br_d (fun c1 => ?_) (fun c1 => ?_)
    · reads_via
      exact ⟨_, _, rfl, rfl, fun _ _ _ => rfl⟩
    · reads_via
      refine ⟨_, _, rfl, rfl, fun j hj hh => ?_⟩
      by_cases hji : j < i
      · exact hm j hji hh
      · rw [show j = i by omega] at hh
        omega
  · rintro σ H' ⟨m, v6, rfl, rfl, hm⟩
    rw [Int.toNat_natCast] at hm
    obtain ⟨j, hj, hh⟩ := q3
    obtain rfl : m = true := hm j hj hh
    reads_via
    rw [List.length_map]
    refine r_rng1 (by omega) (by omega) ?_
    rw [Int.toNat_natCast]
    refine lcPR0 (by omega) (fun i => .int ((fun x y => x - q * y) (xs.getD i 0) (ys.getD i 0))) (fun i H2 k hi e2 hk => ?_) fun D H2 nD e2 h2 => ?_
    · have y1 := hny i hi
      reads_via
      refine v_ixLn (by got_up) (int_get hi) ?_
      reads_via
      refine v_ixLn (by got_up) (int_get (by omega)) ?_
      reads_via
      refine v_mul (cm10 ⟨by omega, q1⟩ ⟨by omega, y1.2⟩) ?_
      reads_via
      exact hk _ Ext.rfl
    rw [rng_zip (fun x y => x - q * y) V.int hl] at h2
    reads_via
    refine ⟨rfl, a, dx, u, b, dy, v, xs, ys, rfl, by got_up, by got_up, by got_up, by got_up, l1, l2, l3, hl, hnx, hny, fun _ q' hq' x dx' w H3 n3 e3 h3 hw3 => ?_, fun hz => by obtain ⟨i, hi, h0⟩ := hpos; have := hz i hi; omega⟩
    obtain rfl := Quo.same hny hq hq'
    reads_via
    refine ⟨rfl, x, dx', w, D, _, rfl, h3, hw3, by got_up, by simp; omega, by simp; omega, fun H4 e4 => ?_⟩
    exact k _ (((e1.trans e2).trans e3).trans e4)
set_option maxHeartbeats 1000000 in
theorem ok__law_refused {P : Program} {w : World} {K : PySem.W.Frag} {mg : Str → Option Value} {base : Heap} {c : Ad} {f : Addr} {fd : FuncData} (F : Fun K "_law_refused" "_law_refused" s__law_refused f fd) (T : Txt K mg c) (S_Amounts___floordiv__ : Sm P w K mg base c.Amounts "__floordiv__" 2 ["self", "other"] (sp_Amounts___floordiv__ c)) (S_Amounts___mod__ : Sm P w K mg base c.Amounts "__mod__" 4 ["self", "other"] (sp_Amounts___mod__ c)) :
    FnOk P w K mg base (L2N.CX P w) 5 f fd ["_law_one", "_law_other", "_law_b", "_law_way"] (sp__law_refused c) := by
  refine GG.Fun.okN F sc__law_refused (fun vs H Q E h => h.1) (fun cdv ar ou sh H vs Q E hr h => ?_)
  obtain ⟨_, a, dx, u, b, dy, v, qb, xs, ys, j, rfl, ha, hu, hb, hv, hqb, l1, l2, l3, hl, hnx, hny, hz, hj, k⟩ := h
  have hO := T.o_Amounts
  have hcl := T.o_Amounts.cl
  have hn1 := T.na_Amounts_numbers
  have tk := L2N.takes_of (X := cxOf (L2N.CX P w) P w K mg base ["_law_one", "_law_other", "_law_b", "_law_way", "e", "_law_found"] "_law_refused" (defScope s__law_refused) f cdv ar ou sh H E) rfl rfl rfl rfl
  refine ⟨_, (pss_cons (ps_tryAs (i := 4) sc__law_refused.nd rfl ⟨rfl, by decide, Or.inl T.g_GangError⟩ tk
      (fun W pn xe tk po => (pss_one (ps_if (pt_cmpR (u_eq K hr.units) (pv 3) pe_int (nomark _))
      (pss_one (ps_asg (pe_opS (op_own S_Amounts___floordiv__ (hr.mono (by decide)) (ps_of tk) T.sf_Amounts) (pv 0) (pv 1)) (pg_name (i := 5) sc__law_refused.nd rfl (Or.inl rfl))))
      (pss_one (ps_asg (pe_opS (op_own S_Amounts___mod__ (hr.mono (by decide)) (ps_of tk) T.sf_Amounts) (pv 0) (pv 1)) (pg_name (i := 5) sc__law_refused.nd rfl (Or.inl rfl)))))))
      (fun a oe cls d pn hz hf => (pss_cons (ps_if (PW.pt (pw_or (pt_not (pt_tru K (pe_callB (call_isX K mg hz.zc hf) (by rfl) T.b_isinstance (by decide +kernel) (pa_cons (pv 4) (pa_cons (pe_glob (v := .ref c.BadAmounts) rfl T.g_BadAmounts rfl) pa_nil))) (by intro _; rfl))) (pw_or1 (pt_not (pt_tru K (pe_callB (call_isX K mg hz.zc hf) (by rfl) T.b_isinstance (by decide +kernel) (pa_cons (pv 4) (pa_cons (pe_bltn (v := .ty "ValueError") rfl T.b_ValueError (by decide +kernel) rfl) pa_nil))) (by intro _; rfl))))))
      (pss_one (ps_ret pe_bl))
      pss_nil)
      (pss_one (ps_ret (pe_and (pe_cmpR (u_eq K hr.units) (pe_subj K mg hz.zc hf (pv 4)) (pe_callTy (c_tuple K) (by rfl) T.b_tuple (by decide +kernel) (pa_cons (pv 2) pa_nil)) (nomark _)) (pe_and (pe_not (pe_callB (call_isX K mg hz.zc hf) (by rfl) T.b_isinstance (by decide +kernel) (pa_cons (pv 4) (pa_cons (pe_glob (v := .ref c.BadShare) rfl T.g_BadShare rfl) pa_nil)))) (pe_one (pe_not (pe_callB (call_isX K mg hz.zc hf) (by rfl) T.b_isinstance (by decide +kernel) (pa_cons (pv 4) (pa_cons (pe_glob (v := .ref c.Unknown) rfl T.g_Unknown rfl) pa_nil))))))))))))
      (pss_one (ps_ret (pe_cmpR (u_eq K hr.units) (pe_lst (pa_cons (pv 5) pa_nil)) (pe_lst pa_nil) (nomark _))))), ?_⟩
  try dsimp only [L2H.cxH, cxOf, Cx.suite, Cx.tr, List.map_cons, List.map_nil]
  refine run_start (σ := [some (.ref a), some (.ref b), some (.ref qb), some (.int (j : Int)), none, none]) rfl ?_
  clear tk
  match j, hj with
  | 0, _ =>
    end_str
    refine ⟨rfl, a, dx, u, b, dy, v, xs, ys, rfl, ha, hu, hb, hv, l1, l2, l3, hl, hnx, hny, fun hp => by obtain ⟨i, hi, h0⟩ := hp; have := hz i hi; omega, fun _ d H1 e1 hd => ?_⟩
    refine w_as T.x_BadAmounts_GangError fun ae oe pn na => ?_
    reads_via
    refine v_isX T.e_BadAmounts (by got_up) T.k_BadAmounts_BadAmounts (.own _) ?_
    reads_via
    refine v_isX T.e_BadAmounts (by got_up) T.k_BadAmounts_ValueError (.ty _) ?_
    reads_via
    refine v_subj T.e_BadAmounts (by got_up) ?_
    reads_via
    rename_i tp H2 ntp e2 htp
    refine v_eqTI (ms := ys) (ns := ys) (by got_up) (by got_up) ?_
    rw [decide_eq_true rfl]
    reads_via
    refine v_isX T.e_BadAmounts (by got_up) T.k_BadAmounts_BadShare (.own _) ?_
    reads_via
    refine v_isX T.e_BadAmounts (by got_up) T.k_BadAmounts_Unknown (.own _) ?_
    reads_via
    exact k H2 (e1.trans e2)
  | 1, _ =>
    end_str
    refine ⟨rfl, a, dx, u, b, dy, v, xs, ys, rfl, ha, hu, hb, hv, l1, l2, l3, hl, hnx, hny, fun hp => by obtain ⟨i, hi, h0⟩ := hp; have := hz i hi; omega, fun _ d H1 e1 hd => ?_⟩
    refine w_as T.x_BadAmounts_GangError fun ae oe pn na => ?_
    reads_via
    refine v_isX T.e_BadAmounts (by got_up) T.k_BadAmounts_BadAmounts (.own _) ?_
    reads_via
    refine v_isX T.e_BadAmounts (by got_up) T.k_BadAmounts_ValueError (.ty _) ?_
    reads_via
    refine v_subj T.e_BadAmounts (by got_up) ?_
    reads_via
    rename_i tp H2 ntp e2 htp
    refine v_eqTI (ms := ys) (ns := ys) (by got_up) (by got_up) ?_
    rw [decide_eq_true rfl]
    reads_via
    refine v_isX T.e_BadAmounts (by got_up) T.k_BadAmounts_BadShare (.own _) ?_
    reads_via
    refine v_isX T.e_BadAmounts (by got_up) T.k_BadAmounts_Unknown (.own _) ?_
    reads_via
    exact k H2 (e1.trans e2)
set_option maxHeartbeats 1000000 in
theorem ok__law_sums {P : Program} {w : World} {K : PySem.W.Frag} {mg : Str → Option Value} {base : Heap} {c : Ad} {f : Addr} {fd : FuncData} (F : Fun K "_law_sums" "_law_sums" s__law_sums f fd) (T : Txt K mg c) (F__law_is : Fn P w K mg base "_law_is" 2 ["_law_row_here", "_law_numbers"] [] (sp__law_is c)) (F__law_whole : Fn P w K mg base "_law_whole" 1 ["_law_value"] [] (sp__law_whole c)) (S_Amounts___sub__ : Sm P w K mg base c.Amounts "__sub__" 3 ["self", "other"] (sp_Amounts___sub__ c)) (S_Amounts___add__ : Sm P w K mg base c.Amounts "__add__" 3 ["self", "other"] (sp_Amounts___add__ c)) (S_Amounts___mul__ : Sm P w K mg base c.Amounts "__mul__" 3 ["self", "other"] (sp_Amounts___mul__ c)) (S_Amounts___rmul__ : Sm P w K mg base c.Amounts "__rmul__" 4 ["self", "other"] (sp_Amounts___rmul__ c)) (S_Amounts___neg__ : Sm P w K mg base c.Amounts "__neg__" 3 ["self"] (sp_Amounts___neg__ c)) (S_Amounts___abs__ : Sm P w K mg base c.Amounts "__abs__" 1 ["self"] (sp_Amounts___abs__ c)) :
    FnOk P w K mg base (L2N.CX P w) 5 f fd ["_law_one", "_law_a", "_law_other", "_law_b", "_law_times"] (sp__law_sums c) := by
  refine GG.Fun.okN F sc__law_sums (fun vs H Q E h => h.1) (fun cdv ar ou sh H vs Q E hr h => ?_)
  obtain ⟨_, a, dx, u, b, dy, v, qa, qb, xs, ys, t, rfl, ha, hu, hb, hv, hqa, hqb, l1, l2, l3, hl, hbx, hbt, k⟩ := h
  have hO := T.o_Amounts
  have hcl := T.o_Amounts.cl
  have hn1 := T.na_Amounts_numbers
  have tk := L2N.takes_of (X := cxOf (L2N.CX P w) P w K mg base ["_law_one", "_law_a", "_law_other", "_law_b", "_law_times", "_law_size", "_law_number_here", "_law_k"] "_law_sums" (defScope s__law_sums) f cdv ar ou sh H E) rfl rfl rfl rfl
  refine ⟨_, (pss_cons (ps_asg pe_int (pg_name (i := 5) sc__law_sums.nd rfl (Or.inl rfl)))
      (pss_cons (ps_for (passes_of rfl) rfl (pi_listK K (pi_list (pv 1))) (pg_name (i := 6) sc__law_sums.nd rfl (Or.inl rfl))
      (pss_one (ps_asg (pe_op (u_add K) (pv 5) (pe_callB c_abs (by rfl) T.b_abs (by decide +kernel) (pa_cons (pv 6) pa_nil))) (pg_name (i := 5) sc__law_sums.nd rfl (Or.inl rfl)))))
      (pss_cons (ps_if (PW.pt (pw_or (pt_not (pt_tru K (pe_fn F__law_whole (hr.mono (by decide)) (ps_of tk) (pa_cons (pe_callBS (call_ownAbs S_Amounts___abs__ (hr.mono (by decide)) (ps_of tk)) T.b_abs (by decide +kernel) (pa_cons (pv 0) pa_nil)) pa_nil)) (by intro _; rfl))) (pw_or (pt_cmpR (u_ne K hr.units) (pe_callBS (call_ownAbs S_Amounts___abs__ (hr.mono (by decide)) (ps_of tk)) T.b_abs (by decide +kernel) (pa_cons (pv 0) pa_nil)) (pv 5) (nomark _)) (pw_or1 (pt_not (pt_tru K (pe_fn F__law_is (hr.mono (by decide)) (ps_of tk) (pa_cons (pe_unS (un_own S_Amounts___neg__ (hr.mono (by decide)) (ps_of tk)) (pv 0)) (pa_cons (pe_lcV [6] (pe_lc (own := [("_law_number_here", 6)]) (by rfl) sc__law_sums.nd (pi_listK K (pi_list (pv 1))) (blkOk_by (own := [("_law_number_here", 6)]) (N := ["_law_one", "_law_a", "_law_other", "_law_b", "_law_times", "_law_size", "_law_number_here", "_law_k"]) (sc := defScope s__law_sums) (by decide +kernel)) (fun _ _ _ _ _ => (pg_name (i := 6) sc__law_sums.nd rfl (Or.inl rfl))) (fun _ _ _ _ _ => pts_nil) (fun _ _ _ _ _ => (pe_un un_neg (pv 6))))) pa_nil))) (by intro _; rfl)))))))
      (pss_one (ps_ret pe_bl))
      pss_nil)
      (pss_cons (ps_if (pt_not (pt_tru K (pe_fn F__law_is (hr.mono (by decide)) (ps_of tk) (pa_cons (pe_opS (op_intOwn S_Amounts___rmul__ (hr.mono (by decide)) (ps_of tk) T.sf_Amounts S_Amounts___mul__.lk il_mul T.si_Amounts) (pv 4) (pv 0)) (pa_cons (pe_lcV [6] (pe_lc (own := [("_law_number_here", 6)]) (by rfl) sc__law_sums.nd (pi_listK K (pi_list (pv 1))) (blkOk_by (own := [("_law_number_here", 6)]) (N := ["_law_one", "_law_a", "_law_other", "_law_b", "_law_times", "_law_size", "_law_number_here", "_law_k"]) (sc := defScope s__law_sums) (by decide +kernel)) (fun _ _ _ _ _ => (pg_name (i := 6) sc__law_sums.nd rfl (Or.inl rfl))) (fun _ _ _ _ _ => pts_nil) (fun _ _ _ _ _ => (pe_op u_mul (pv 4) (pv 6))))) pa_nil))) (by intro _; rfl)))
      (pss_one (ps_ret pe_bl))
      pss_nil)
      (pss_cons (ps_if (pt_not (pt_tru K (pe_fn F__law_is (hr.mono (by decide)) (ps_of tk) (pa_cons (pe_opS (op_ownI S_Amounts___mul__ (hr.mono (by decide)) (ps_of tk) T.sf_Amounts T.ri_Amounts___mul__) (pv 0) (pv 4)) (pa_cons (pe_lcV [6] (pe_lc (own := [("_law_number_here", 6)]) (by rfl) sc__law_sums.nd (pi_listK K (pi_list (pv 1))) (blkOk_by (own := [("_law_number_here", 6)]) (N := ["_law_one", "_law_a", "_law_other", "_law_b", "_law_times", "_law_size", "_law_number_here", "_law_k"]) (sc := defScope s__law_sums) (by decide +kernel)) (fun _ _ _ _ _ => (pg_name (i := 6) sc__law_sums.nd rfl (Or.inl rfl))) (fun _ _ _ _ _ => pts_nil) (fun _ _ _ _ _ => (pe_op u_mul (pv 4) (pv 6))))) pa_nil))) (by intro _; rfl)))
      (pss_one (ps_ret pe_bl))
      pss_nil)
      (pss_cons (ps_if (pt_not (pt_tru K (pe_fn F__law_is (hr.mono (by decide)) (ps_of tk) (pa_cons (pe_opS (op_own S_Amounts___add__ (hr.mono (by decide)) (ps_of tk) T.sf_Amounts) (pv 0) (pv 2)) (pa_cons (pe_lcV [7] (pe_lc (own := [("_law_k", 7)]) (by rfl) sc__law_sums.nd (pi_range1 (by rfl) T.b_range (pa_cons (pe_callB (c_len K) (by rfl) T.b_len (by decide +kernel) (pa_cons (pv 1) pa_nil)) pa_nil)) (blkOk_by (own := [("_law_k", 7)]) (N := ["_law_one", "_law_a", "_law_other", "_law_b", "_law_times", "_law_size", "_law_number_here", "_law_k"]) (sc := defScope s__law_sums) (by decide +kernel)) (fun _ _ _ _ _ => (pg_name (i := 7) sc__law_sums.nd rfl (Or.inl rfl))) (fun _ _ _ _ _ => pts_nil) (fun _ _ _ _ _ => (pe_op (u_add K) (pe_ix (u_ix K) (pv 1) (pv 7) (fun _ _ => rfl)) (pe_ix (u_ix K) (pv 3) (pv 7) (fun _ _ => rfl)))))) pa_nil))) (by intro _; rfl)))
      (pss_one (ps_ret pe_bl))
      pss_nil)
      (pss_one (ps_ret (pe_fn F__law_is (hr.mono (by decide)) (ps_of tk) (pa_cons (pe_opS (op_own S_Amounts___sub__ (hr.mono (by decide)) (ps_of tk) T.sf_Amounts) (pv 0) (pv 2)) (pa_cons (pe_lcV [7] (pe_lc (own := [("_law_k", 7)]) (by rfl) sc__law_sums.nd (pi_range1 (by rfl) T.b_range (pa_cons (pe_callB (c_len K) (by rfl) T.b_len (by decide +kernel) (pa_cons (pv 1) pa_nil)) pa_nil)) (blkOk_by (own := [("_law_k", 7)]) (N := ["_law_one", "_law_a", "_law_other", "_law_b", "_law_times", "_law_size", "_law_number_here", "_law_k"]) (sc := defScope s__law_sums) (by decide +kernel)) (fun _ _ _ _ _ => (pg_name (i := 7) sc__law_sums.nd rfl (Or.inl rfl))) (fun _ _ _ _ _ => pts_nil) (fun _ _ _ _ _ => (pe_op u_sub (pe_ix (u_ix K) (pv 1) (pv 7) (fun _ _ => rfl)) (pe_ix (u_ix K) (pv 3) (pv 7) (fun _ _ => rfl)))))) pa_nil))))))))))), ?_⟩
  try dsimp only [L2H.cxH, cxOf, Cx.suite, Cx.tr, List.map_cons, List.map_nil]
  refine run_start (σ := [some (.ref a), some (.ref qa), some (.ref b), some (.ref qb), some (.int t), none, none, none]) rfl ?_
  clear tk
  reads_via
  refine f_list (xs := xs.map V.int) (fun i σ H' => ∃ z v6, σ = [some (.ref a), some (.ref qa), some (.ref b), some (.ref qb), some (.int t), some (.int z), v6, none] ∧ H' = H ∧ z = ((xs.take i).map fun x => if x < 0 then -x else x).sum) ⟨0, none, rfl, rfl, rfl⟩ ?_ ?_ ?_
  · rintro i σ H' hi ⟨z, v6, rfl, rfl, _⟩
    exact SqL.of hqa
  · rintro i x σ H' hx ⟨z, v6, rfl, rfl, hz⟩
    obtain ⟨hi, rfl⟩ := int_at hx
    reads_via
    refine ⟨_, _, rfl, rfl, ?_⟩
    rw [take_sum hi, ← hz]
  · rintro σ H' ⟨z, v6, rfl, rfl, hz⟩
    rw [List.length_map, List.take_length] at hz
    subst hz
    reads_via
    refine ⟨rfl, a, dx, u, xs, rfl, ha, hu, l2, fun H1 e1 => ?_⟩
    reads_via
    refine ⟨rfl, a, dx, u, xs, rfl, by got_up, by got_up, l2, fun H2 e2 => ?_⟩
    reads_via
    have e02 := e1.trans e2
    clear e1 e2
    refine ⟨rfl, a, dx, u, xs, rfl, by got_up, by got_up, l1, l2, fun x3 dx3 w3 H3 n3 e3 h3 hw3 => ?_⟩
    reads_via
    refine lcPL (xs := xs.map V.int) (by got_up) (by simp; omega) (fun i => .int ((fun x => -x) (xs.getD i 0))) (fun i x H2 k hx e2 hk => ?_) fun D H4 nD e4 h4 => ?_
    · obtain ⟨hi, rfl⟩ := int_at hx
      have bx := hbx i hi
      reads_via
      exact hk _ Ext.rfl
    rw [List.length_map, rng_map fun x => -x] at h4
    reads_via
    refine ⟨rfl, x3, dx3, w3, D, _, rfl, by got_up, by got_up, by got_up, by simp; omega, by simp; omega, fun H5 e5 => ?_⟩
    reads_via
    have e05 := (((e02.trans e3).trans e4).trans e5)
    clear e3 e4 e5 e02
    refine v_iR (by got_up) ?_
    refine ⟨rfl, a, dx, u, xs, t, rfl, by got_up, by got_up, l1, l2, fun i hi => cm10 hbt (hbx i hi), fun x6 dx6 w6 H6 n6 e6 h6 hw6 => ?_⟩
    reads_via
    refine lcPL (xs := xs.map V.int) (by got_up) (by simp; omega) (fun i => .int ((fun x => t * x) (xs.getD i 0))) (fun i x H2 k hx e2 hk => ?_) fun D H7 nD e7 h7 => ?_
    · obtain ⟨hi, rfl⟩ := int_at hx
      have bx := hbx i hi
      reads_via
      refine v_mul (cm10 hbt bx) ?_
      exact hk _ Ext.rfl
    rw [List.length_map, rng_map fun x => t * x] at h7
    reads_via
    refine ⟨rfl, x6, dx6, w6, D, _, rfl, by got_up, by got_up, by got_up, by simp; omega, by simp; omega, fun H8 e8 => ?_⟩
    reads_via
    have e08 := (((e05.trans e6).trans e7).trans e8)
    clear e6 e7 e8 e05
    refine ⟨rfl, a, dx, u, xs, t, rfl, by got_up, by got_up, l1, l2, fun i hi => cm10 hbt (hbx i hi), fun x9 dx9 w9 H9 n9 e9 h9 hw9 => ?_⟩
    reads_via
    refine lcPL (xs := xs.map V.int) (by got_up) (by simp; omega) (fun i => .int ((fun x => t * x) (xs.getD i 0))) (fun i x H2 k hx e2 hk => ?_) fun D H10 nD e10 h10 => ?_
    · obtain ⟨hi, rfl⟩ := int_at hx
      have bx := hbx i hi
      reads_via
      refine v_mul (cm10 hbt bx) ?_
      exact hk _ Ext.rfl
    rw [List.length_map, rng_map fun x => t * x] at h10
    reads_via
    refine ⟨rfl, x9, dx9, w9, D, _, rfl, by got_up, by got_up, by got_up, by simp; omega, by simp; omega, fun H11 e11 => ?_⟩
    reads_via
    have e011 := (((e08.trans e9).trans e10).trans e11)
    clear e9 e10 e11 e08
    refine ⟨rfl, a, dx, u, b, dy, v, xs, ys, rfl, by got_up, by got_up, by got_up, by got_up, l1, l2, l3, fun _ x12 dx12 w12 H12 n12 e12 h12 hw12 => ?_, fun hne => absurd hl hne⟩
    reads_via
    rw [List.length_map]
    refine r_rng1 (by omega) (by omega) ?_
    rw [Int.toNat_natCast]
    refine lcPR0 (by omega) (fun i => .int ((fun x y => x + y) (xs.getD i 0) (ys.getD i 0))) (fun i H2 k hi e2 hk => ?_) fun D H13 nD e13 h13 => ?_
    · reads_via
      refine v_ixLn (by got_up) (int_get hi) ?_
      reads_via
      refine v_ixLn (by got_up) (int_get (by omega)) ?_
      reads_via
      exact hk _ Ext.rfl
    rw [rng_zip (fun x y => x + y) V.int hl] at h13
    reads_via
    refine ⟨rfl, x12, dx12, w12, D, _, rfl, by got_up, by got_up, by got_up, by simp; omega, by simp; omega, fun H14 e14 => ?_⟩
    reads_via
    have e014 := ((e011.trans e12).trans e13).trans e14
    clear e12 e13 e14 e011
    refine ⟨rfl, a, dx, u, b, dy, v, xs, ys, rfl, by got_up, by got_up, by got_up, by got_up, l1, l2, l3, fun _ x15 dx15 w15 H15 n15 e15 h15 hw15 => ?_, fun hne => absurd hl hne⟩
    reads_via
    rw [List.length_map]
    refine r_rng1 (by omega) (by omega) ?_
    rw [Int.toNat_natCast]
    refine lcPR0 (by omega) (fun i => .int ((fun x y => x - y) (xs.getD i 0) (ys.getD i 0))) (fun i H2 k hi e2 hk => ?_) fun D H16 nD e16 h16 => ?_
    · reads_via
      refine v_ixLn (by got_up) (int_get hi) ?_
      reads_via
      refine v_ixLn (by got_up) (int_get (by omega)) ?_
      reads_via
      exact hk _ Ext.rfl
    rw [rng_zip (fun x y => x - y) V.int hl] at h16
    reads_via
    refine ⟨rfl, x15, dx15, w15, D, _, rfl, by got_up, by got_up, by got_up, by simp; omega, by simp; omega, fun H17 e17 => ?_⟩
    reads_via
    have e017 := ((e014.trans e15).trans e16).trans e17
    clear e15 e16 e17 e014
    exact k _ e017
set_option maxHeartbeats 4000000 in
theorem ok__law_asked {P : Program} {w : World} {K : PySem.W.Frag} {mg : Str → Option Value} {base : Heap} {c : Ad} {f : Addr} {fd : FuncData} (F : Fun K "_law_asked" "_law_asked" s__law_asked f fd) (T : Txt K mg c) (F__law_is : Fn P w K mg base "_law_is" 2 ["_law_row_here", "_law_numbers"] [] (sp__law_is c)) (F__law_made : Fn P w K mg base "_law_made" 4 ["_law_kinds", "_law_given", "_law_way"] [] (sp__law_made c)) :
    FnOk P w K mg base (L2N.CX P w) 5 f fd ["_law_kinds", "_law_given", "_law_way"] (sp__law_asked c) := by
  refine GG.Fun.okN F sc__law_asked (fun vs H Q E h => h.1) (fun cdv ar ou sh H vs Q E hr h => ?_)
  obtain ⟨_, qk, qg, kinds, x, y, z, j, rfl, hqk, hqg, l1, l3, hnd, hj, k⟩ := h
  have tk := L2N.takes_of (X := cxOf (L2N.CX P w) P w K mg base ["_law_kinds", "_law_given", "_law_way", "_law_words", "_law_strange", "e", "_law_numbers", "_law_made_here", "_law_name", "_law_number_here", "_law_word"] "_law_asked" (defScope s__law_asked) f cdv ar ou sh H E) rfl rfl rfl rfl
  refine ⟨_, (pss_cons (ps_asg (pe_lst (pa_cons (pe_lst pa_nil) (pa_cons (pe_lst (pa_cons pe_str pa_nil)) (pa_cons (pe_lst (pa_cons pe_str pa_nil)) (pa_cons (pe_lst (pa_cons pe_str (pa_cons pe_str pa_nil))) (pa_cons (pe_lst (pa_cons pe_str (pa_cons pe_str pa_nil))) (pa_cons (pe_lst (pa_cons pe_str (pa_cons pe_str pa_nil))) pa_nil))))))) (pg_name (i := 3) sc__law_asked.nd rfl (Or.inl rfl)))
      (pss_cons (ps_asg (pe_op (u_add K) (pv 3) (pe_lst (pa_cons (pe_lst (pa_cons pe_str (pa_cons pe_str (pa_cons pe_str pa_nil)))) (pa_cons (pe_lst (pa_cons pe_str (pa_cons pe_str (pa_cons pe_str pa_nil)))) pa_nil)))) (pg_name (i := 3) sc__law_asked.nd rfl (Or.inl rfl)))
      (pss_cons (ps_asg (pe_op (u_add K) (pv 3) (pe_lst (pa_cons (pe_lst (pa_cons pe_str pa_nil)) (pa_cons (pe_lst (pa_cons pe_str (pa_cons pe_str pa_nil))) pa_nil)))) (pg_name (i := 3) sc__law_asked.nd rfl (Or.inl rfl)))
      (pss_cons (ps_lcV [10] (ps_setLc (i := 4) (own := [("_law_word", 10)])  (by rfl) sc__law_asked.nd rfl rfl (sw_true rfl rfl rfl (by decide +kernel)) (pi_listK K (pi_list (pe_ix (u_ix K) (pv 3) (pv 2) (fun _ _ => rfl)))) (blkOk_by (own := [("_law_word", 10)]) (N := ["_law_kinds", "_law_given", "_law_way", "_law_words", "_law_strange", "e", "_law_numbers", "_law_made_here", "_law_name", "_law_number_here", "_law_word"]) (sc := defScope s__law_asked) (by decide +kernel)) (fun _ _ _ _ _ => (pg_name (i := 10) sc__law_asked.nd rfl (Or.inl rfl))) (fun _ _ _ _ _ => (pts_one (pt_cmpR (u_notinX K) (pv 10) (pv 0) rfl))) (fun _ _ _ _ _ => (pv 10))))
      (pss_cons (ps_tryAs (i := 5) sc__law_asked.nd rfl ⟨rfl, by decide, Or.inl T.g_GangError⟩ tk
      (fun W pn xe tk po => (pss_one (ps_asg (pe_fn F__law_made (hr.mono (by decide)) (ps_of tk) (pa_cons (pv 0) (pa_cons (pv 1) (pa_cons (pv 2) pa_nil)))) (pg_name (i := 7) sc__law_asked.nd rfl (Or.inl rfl)))))
      (fun a oe cls d pn hz hf => (pss_cons (ps_if (PW.pt (pw_or (pt_cmpR (u_eq K hr.units) (pv 4) (pe_lst pa_nil) (nomark _)) (pw_or (pt_not (pt_tru K (pe_callB (call_isX K mg hz.zc hf) (by rfl) T.b_isinstance (by decide +kernel) (pa_cons (pv 5) (pa_cons (pe_glob (v := .ref c.Unknown) rfl T.g_Unknown rfl) pa_nil))) (by intro _; rfl))) (pw_or1 (pt_tru K (pe_callB (call_isX K mg hz.zc hf) (by rfl) T.b_isinstance (by decide +kernel) (pa_cons (pv 5) (pa_cons (pe_glob (v := .ref c.BadAmounts) rfl T.g_BadAmounts rfl) pa_nil))) (by intro _; rfl))))))
      (pss_one (ps_ret pe_bl))
      pss_nil)
      (pss_one (ps_ret (pe_and (pe_callB (call_isX K mg hz.zc hf) (by rfl) T.b_isinstance (by decide +kernel) (pa_cons (pv 5) (pa_cons (pe_bltn (v := .ty "ValueError") rfl T.b_ValueError (by decide +kernel) rfl) pa_nil))) (pe_one (pe_cmpR (u_eq K hr.units) (pe_subj K mg hz.zc hf (pv 5)) (pe_ix (u_ix K) (pv 4) pe_int (fun _ _ => rfl)) (nomark _)))))))))
      (pss_cons (ps_lcV [8] (ps_setLc (i := 6) (own := [("_law_name", 8)])  (by rfl) sc__law_asked.nd rfl rfl (sw_true rfl rfl rfl (by decide +kernel)) (pi_listK K (pi_list (pv 0))) (blkOk_by (own := [("_law_name", 8)]) (N := ["_law_kinds", "_law_given", "_law_way", "_law_words", "_law_strange", "e", "_law_numbers", "_law_made_here", "_law_name", "_law_number_here", "_law_word"]) (sc := defScope s__law_asked) (by decide +kernel)) (fun _ _ _ _ _ => (pg_name (i := 8) sc__law_asked.nd rfl (Or.inl rfl))) (fun _ _ _ _ _ => pts_nil) (fun _ _ _ _ _ => pe_int)))
      (pss_cons (ps_for (passes_of rfl) rfl (pi_listK K (pi_list (pe_ix (u_ix K) (pv 7) pe_int (fun _ _ => rfl)))) (pg_tupK K (n := 2) (pg_tup (n := 2) (by rfl) (pgs_cons (pg_name (i := 8) sc__law_asked.nd rfl (Or.inl rfl)) (pgs_cons (pg_name (i := 9) sc__law_asked.nd rfl (Or.inl rfl)) pgs_nil))))
      (pss_cons (ps_if (pt_cmpR (u_notinX K) (pv 8) (pv 0) rfl)
      (pss_one (ps_ret pe_bl))
      pss_nil)
      (pss_one (ps_asg (pv 9) (pg_sub (pv 6) (pe_bmK K (pe_bm PySem.F.plainAttrs_list PySem.F.slot_list_index PySem.F.type_list_index (m_index K) (pv 0) (pa_cons (pv 8) pa_nil))) u_set)))))
      (pss_one (ps_ret (pe_and (pe_cmpR (u_eq K hr.units) (pv 4) (pe_lst pa_nil) (nomark _)) (pe_one (pe_fn F__law_is (hr.mono (by decide)) (ps_of tk) (pa_cons (pe_ix (u_ix K) (pv 7) pe_int (fun _ _ => rfl)) (pa_cons (pv 6) pa_nil)))))))))))))), ?_⟩
  try dsimp only [L2H.cxH, cxOf, Cx.suite, Cx.tr, List.map_cons, List.map_nil]
  refine run_start (σ := [some (.ref qk), some (.ref qg), some (.int (j : Int)), none, none, none, none, none, none, none, none]) rfl ?_
  clear tk
  reads_via
  rename_i w0 H1 nw0 e1 hw0 w1 H2 nw1 e2 hw1 w2 H3 nw2 e3 hw2 w3 H4 nw3 e4 hw3 w4 H5 nw4 e5 hw4 w5 H6 nw5 e6 hw5 ws1 H7 nws1 e7 hws1 w6 H8 nw6 e8 hw6 w7 H9 nw7 e9 hw7 ws2 H10 nws2 e10 hws2
  refine v_addL (by got_up) (by got_up) (by simp) fun ws3 H11 nws3 e11 hws3 => ?_
  simp only [List.cons_append, List.nil_append] at hws3
  reads_via
  rename_i w8 H12 nw8 e12 hw8 w9 H13 nw9 e13 hw9 ws4 H14 nws4 e14 hws4
  refine v_addL (by got_up) (by got_up) (by simp) fun ws5 H15 nws5 e15 hws5 => ?_
  simp only [List.cons_append, List.nil_append] at hws5
  obtain ⟨lw, hat, hlw⟩ : ∃ lw, [V.ref w0, .ref w1, .ref w2, .ref w3, .ref w4, .ref w5, .ref w6, .ref w7, .ref w8, .ref w9][j]? = some (.ref lw) ∧ H15 lw = some (.lst ((wk j).map V.str)) := by
    match j, hj with
    | 0, _ =>
      have h : H15 w0 = some (.lst []) := by with_reducible got_up
      exact ⟨w0, rfl, h⟩
    | 1, _ =>
      have h : H15 w1 = some (.lst [V.str (Str.ofString "core")]) := by with_reducible got_up
      exact ⟨w1, rfl, h⟩
    | 2, _ =>
      have h : H15 w2 = some (.lst [V.str (Str.ofString "fast")]) := by with_reducible got_up
      exact ⟨w2, rfl, h⟩
    | 3, _ =>
      have h : H15 w3 = some (.lst [V.str (Str.ofString "big"), V.str (Str.ofString "core")]) := by with_reducible got_up
      exact ⟨w3, rfl, h⟩
    | 4, _ =>
      have h : H15 w4 = some (.lst [V.str (Str.ofString "core"), V.str (Str.ofString "big")]) := by with_reducible got_up
      exact ⟨w4, rfl, h⟩
    | 5, _ =>
      have h : H15 w5 = some (.lst [V.str (Str.ofString "fast"), V.str (Str.ofString "core")]) := by with_reducible got_up
      exact ⟨w5, rfl, h⟩
    | 6, _ =>
      have h : H15 w6 = some (.lst [V.str (Str.ofString "big"), V.str (Str.ofString "fast"), V.str (Str.ofString "core")]) := by with_reducible got_up
      exact ⟨w6, rfl, h⟩
    | 7, _ =>
      have h : H15 w7 = some (.lst [V.str (Str.ofString "core"), V.str (Str.ofString "fast"), V.str (Str.ofString "big")]) := by with_reducible got_up
      exact ⟨w7, rfl, h⟩
    | 8, _ =>
      have h : H15 w8 = some (.lst [V.str (Str.ofString "names")]) := by with_reducible got_up
      exact ⟨w8, rfl, h⟩
    | 9, _ =>
      have h : H15 w9 = some (.lst [V.str (Str.ofString "core"), V.str (Str.ofString "names")]) := by with_reducible got_up
      exact ⟨w9, rfl, h⟩
  have e015 : Ext H H15 := (((((((((((((e1.trans e2).trans e3).trans e4).trans e5).trans e6).trans e7).trans e8).trans e9).trans e10).trans e11).trans e12).trans e13).trans e14).trans e15
  clear e1 e2 e3 e4 e5 e6 e7 e8 e9 e10 e11 e12 e13 e14 e15 nw0 nw1 nw2 nw3 nw4 nw5 nw6 nw7 nw8 nw9 nws1 nws2 nws3 nws4 nws5 hw0 hw1 hw2 hw3 hw4 hw5 hw6 hw7 hw8 hw9 hws1 hws2 hws3 hws4
  reads_via
  refine v_ixLn (by got_up) hat ?_
  reads_via
  refine lcW (walk_list (xs := (wk j).map V.str)) (fun i acc H1' => Ext H15 H1' ∧ acc = (((wk j).take i).filter (fun k => !decide (k ∈ kinds))).map V.str) (fun H2 e2 => ⟨e2, rfl⟩) (fun i acc H2 _ h => SqL.of (h.1.look hlw)) ?_ ?_
  · rintro i xx D acc H2 H2' hD hi0 ⟨e2, rfl⟩ ⟨rfl, hx⟩ h1 hlen
    have hw3 := wk_len j
    rw [List.length_map] at hi0
    obtain ⟨yy, hy, rfl⟩ := map_at hx
    have htk : (wk j).take (i + 1) = (wk j).take i ++ [yy] := by rw [List.take_succ, hy]; rfl
    reads_via
    refine v_notinLS (by got_up) ?_
    reads_via
    refine br_d (fun c1 => ?_) (fun c1 => ?_)
    · refine ⟨_, h1, by omega, e2, ?_⟩
      rw [htk, List.filter_append, List.filter_cons, decide_eq_true c1]
      simp
    · reads_via
      refine v_accK h1 (by omega) (by omega) fun H3 b3 => ⟨b3.ext e2 hD, ?_⟩
      rw [htk, List.filter_append, List.filter_cons, decide_eq_false c1]
      simp
  rintro qs acc H16 hD h16 hlen ⟨e16, rfl⟩
  rw [List.length_map, List.take_length] at h16
  obtain ⟨st, hst⟩ : ∃ st, (wk j).filter (fun k => !decide (k ∈ kinds)) = st := ⟨_, rfl⟩
  have hhd : st.head? = (wk j).find? (fun k => !decide (k ∈ kinds)) := by rw [← hst, List.head?_filter]
  have hsok : ∀ m ∈ st, PyData.strOk m = true := fun m hm => wk_ok j m (by rw [← hst] at hm; exact (List.mem_filter.mp hm).1)
  rw [hst] at h16
  have e016 := e015.trans e16
  reads_via
  refine ⟨rfl, qk, qg, kinds, x, y, z, j, rfl, by got_up, by got_up, l1, l3, hj, fun r q ts u dx ww H17 hn e17 hr' hq' hts hu hw => ?_, fun kk hk dd H17 e17 hdd => ?_⟩
  · have hst0 : st = [] := by
      rw [hn] at hhd
      exact List.head?_eq_none_iff.mp hhd
    subst hst0
    have hqk17 : H17 qk = some (.lst (kinds.map V.str)) := by got_up
    reads_via
    refine lcPL (xs := kinds.map V.str) (by got_up) (by simp; omega) (fun i => .int 0) (fun i x H2 k hx e2 hk => ?_) fun qn H18 nqn e18 hqn => ?_
    · obtain ⟨y0, hy0, rfl⟩ := map_at hx
      reads_via
      exact hk _ Ext.rfl
    have hqn2 : H18 qn = some (.lst ((kinds.map (lk [] [])).map V.int)) := by
      rw [hqn]
      congr 2
      apply List.ext_getElem?
      intro i
      rw [List.length_map, List.getElem?_map, List.getElem?_map, List.getElem?_map]
      by_cases h : i < kinds.length
      · rw [List.getElem?_range h, List.getElem?_eq_getElem h]
        rfl
      · rw [List.getElem?_eq_none (by simp; omega), List.getElem?_eq_none (by omega)]
        rfl
    clear hqn
    have nqnH : H qn = none := (e016.trans e17).free nqn
    have nk : qk ≠ qn := ne_of_none hqk17 nqn
    have nq' : q ≠ qn := ne_of_none hq' nqn
    have nr' : r ≠ qn := ne_of_none hr' nqn
    have ns' : qs ≠ qn := ne_of_none (e17.look h16) nqn
    replace hqk17 := e18.look hqk17
    replace hr' := e18.look hr'
    replace hq' := e18.look hq'
    replace hu := e18.look hu
    replace hw := e18.look hw
    have hqs := e18.look (e17.look h16)
    have e018 : Ext H H18 := (e016.trans e17).trans e18
    replace hts := hts.ext e18
    obtain ⟨tl1, tl2⟩ := hts.len
    clear e015 e16 e016 e17 e18 h16
    reads_via
    refine f_list (xs := ts.map V.ref) (fun i σ H' => ∃ v8 v9, σ = [some (.ref qk), some (.ref qg), some (.int (j : Int)), some (.ref ws5), some (.ref qs), none, some (.ref qn), some (.ref r), v8, v9, none] ∧ But qn H18 H' ∧ H' qn = some (.lst ((kinds.map (lk ((wk j).take i) (([x, y, z].take (wk j).length).take i))).map V.int))) ⟨_, _, rfl, But.rfl, hqn2⟩ ?_ ?_ ?_
    · rintro i σ H' hi ⟨v8, v9, rfl, b, _⟩
      exact SqL.of (b.look nq' hq')
    · rintro i xx σ H' hx ⟨v8, v9, rfl, b, hnum⟩
      obtain ⟨t, ht, rfl⟩ := map_at hx
      obtain ⟨kk, xv, hk1, hx1, ht2⟩ := hts.at ht
      have hkin : kk ∈ kinds := by
        have := List.find?_eq_none.mp hn kk (List.mem_of_getElem? hk1)
        simpa using this
      obtain ⟨m, hm⟩ := List.mem_iff_getElem?.mp hkin
      have hml := (List.getElem?_eq_some_iff.mp hm).1
      have ht3 : H' t = some (.tup [.str kk, .int xv]) := b.lookK hqn2 ht2 (fun hh => nomatch hh)
      have hk3 := b.look nk hqk17
      have e8 : (wk j).take (i + 1) = (wk j).take i ++ [kk] := by rw [List.take_succ, hk1]; rfl
      have e9 : ([x, y, z].take (wk j).length).take (i + 1) = ([x, y, z].take (wk j).length).take i ++ [xv] := by rw [List.take_succ, hx1]; rfl
      have hnk : kk ∉ (wk j).take i := by
        intro hh
        obtain ⟨i2, hi2⟩ := List.mem_iff_getElem?.mp hh
        rw [List.getElem?_take] at hi2
        split at hi2
        · rename_i hlt
          have := (List.getElem?_inj (List.getElem?_eq_some_iff.mp hk1).1 (wk_nodup j)).mp (hk1.trans hi2.symm)
          omega
        · cases hi2
      reads_via
      refine v_notinLS (by got_up) ?_
      rw [decide_eq_true hkin]
      reads_via
      refine v_index (by got_up) hm (fun m2 hm2 h2 => ?_) ?_
      · have := (List.getElem?_inj hml hnd).mp (hm.trans h2.symm)
        omega
      reads_via
      refine v_setN (by got_up) (by simp; omega) fun H2 b2 h2 => ?_
      refine ⟨_, _, rfl, b.trans b2, ?_⟩
      rw [h2, e8, e9, set_lk hnd hm (fun n => lk_snoc (by rw [List.length_take, List.length_take, tl2]) hnk)]
    · rintro σ H' ⟨v8, v9, rfl, b, hnum⟩
      rw [List.length_map, tl1, List.take_length] at hnum
      rw [List.take_of_length_le (i := (wk j).length) (by simp; omega)] at hnum
      have hs3 : H' qs = some (.lst ([].map V.str)) := b.look ns' hqs
      have hr3 := b.look nr' hr'
      have hu3 : H' u = some (.ins c.Amounts dx (amF ww)) := b.lookK hqn2 hu (fun hh => nomatch hh)
      have hw3 := b.lookK hqn2 hw (fun hh => nomatch hh)
      have e0 : Ext H H' := b.ext e018 nqnH
      reads_via
      rename_i qz H19 nqz e19 hqz
      refine v_eqLS (ms := []) (ns := []) (fun m hm => nomatch hm) (fun m hm => nomatch hm) (by got_up) (by got_up) ?_
      reads_via
      refine ⟨rfl, u, dx, ww, qn, _, rfl, by got_up, by got_up, by got_up, by simp; omega, by simp; omega, fun H20 e20 => ?_⟩
      exact k _ ((e0.trans e19).trans e20)
  · obtain ⟨st', rfl⟩ : ∃ st', st = kk :: st' := by
      rw [hk] at hhd
      cases st with
      | nil => cases hhd
      | cons a l => cases hhd; exact ⟨l, rfl⟩
    refine w_as T.x_Unknown_GangError fun ae oe pn na => ?_
    reads_via
    rename_i qz H18 nqz e18 hqz
    refine v_eqLS (ms := kk :: st') (ns := []) hsok (fun m hm => nomatch hm) (by got_up) (by got_up) ?_
    reads_via
    refine br_no (by simp) ?_
    reads_via
    refine v_isX T.e_Unknown (by got_up) T.k_Unknown_Unknown (.own _) ?_
    reads_via
    refine v_isX T.e_Unknown (by got_up) T.k_Unknown_BadAmounts (.own _) ?_
    reads_via
    refine v_isX T.e_Unknown (by got_up) T.k_Unknown_ValueError (.ty _) ?_
    reads_via
    refine v_subj T.e_Unknown (by got_up) ?_
    reads_via
    rw [decide_eq_true rfl]
    exact k _ ((e016.trans e17).trans e18)
set_option maxHeartbeats 8000000 in
theorem ok_law {P : Program} {w : World} {K : PySem.W.Frag} {mg : Str → Option Value} {base : Heap} {c : Ad} {f : Addr} {fd : FuncData} (F : Fun K "law" "law" s_law f fd) (T : Txt K mg c) (F__law_is : Fn P w K mg base "_law_is" 2 ["_law_row_here", "_law_numbers"] [] (sp__law_is c)) (F__law_asked : Fn P w K mg base "_law_asked" 5 ["_law_kinds", "_law_given", "_law_way"] [] (sp__law_asked c)) (F__law_sums : Fn P w K mg base "_law_sums" 5 ["_law_one", "_law_a", "_law_other", "_law_b", "_law_times"] [] (sp__law_sums c)) (F__law_draw : Fn P w K mg base "_law_draw" 1 ["_law_pool_here", "_law_many"] [] (sp__law_draw c)) (F__law_refused : Fn P w K mg base "_law_refused" 5 ["_law_one", "_law_other", "_law_b", "_law_way"] [] (sp__law_refused c)) (F__law_divided : Fn P w K mg base "_law_divided" 5 ["_law_one", "_law_a", "_law_other", "_law_b"] [] (sp__law_divided c)) (F__law_row : Fn P w K mg base "_law_row" 3 ["_law_numbers"] [] (sp__law_row c)) (F__law_signed : Fn P w K mg base "_law_signed" 3 ["_law_pool_here", "_law_groups"] [] (sp__law_signed c)) (F__law_names : Fn P w K mg base "_law_names" 2 ["_law_pool_here"] [] (sp__law_names c)) (F__law_part : Fn P w K mg base "_law_part" 3 ["_law_pool_here", "_law_number_here"] [] (sp__law_part c)) (F__law_number : Fn P w K mg base "_law_number" 2 ["_law_pool_here", "_law_groups"] [] (sp__law_number c)) (F__law_pool : Fn P w K mg base "_law_pool" 1 ["_law_script"] [] (sp__law_pool c)) :
    FnOk P w K mg base (L2N.CX P w) 6 f fd ["_law_script"] (sp_law c) := by
  refine GG.Fun.okN F sc_law (fun vs H Q E h => h.1) (fun cdv ar ou sh H vs Q E hr h => ?_)
  obtain ⟨_, a, ns, rfl, hS, hn, hb, k⟩ := h
  have hO := T.o_Amounts
  have hcl := T.o_Amounts.cl
  have hn1 := T.na_Amounts_numbers
  have tk := L2N.takes_of (X := cxOf (L2N.CX P w) P w K mg base ["_law_script", "_law_pool_here", "_law_a", "_law_b", "_law_c", "_law_d", "_law_nothing", "_law_times", "_law_kinds", "_law_given", "_law_one", "_law_other", "_law_third", "_law_fourth", "_law_empty", "_law_turn", "_law_way", "_law_k", "_law_number_here"] "law" (defScope s_law) f cdv ar ou sh H E) rfl rfl rfl rfl
  refine ⟨_, (pss_cons (ps_asg (pe_fn F__law_pool (hr.mono (by decide)) (ps_of tk) (pa_cons (pv 0) pa_nil)) (pg_name (i := 1) sc_law.nd rfl (Or.inr rfl)))
      (pss_cons (ps_lcV [17] (ps_setLc (i := 2) (own := [("_law_k", 17)])  (by rfl) sc_law.nd rfl rfl (sw_true rfl rfl rfl (by decide +kernel)) (pi_range1 (by rfl) T.b_range (pa_cons (pe_op (u_add K) pe_int (pe_fn F__law_draw (hr.mono (by decide)) (ps_of tk) (pa_cons (pv 1) (pa_cons pe_int pa_nil)))) pa_nil)) (blkOk_by (own := [("_law_k", 17)]) (N := ["_law_script", "_law_pool_here", "_law_a", "_law_b", "_law_c", "_law_d", "_law_nothing", "_law_times", "_law_kinds", "_law_given", "_law_one", "_law_other", "_law_third", "_law_fourth", "_law_empty", "_law_turn", "_law_way", "_law_k", "_law_number_here"]) (sc := defScope s_law) (by decide +kernel)) (fun _ _ _ _ _ => (pg_name (i := 17) sc_law.nd rfl (Or.inl rfl))) (fun _ _ _ _ _ => pts_nil) (fun _ _ _ _ _ => (pe_fn F__law_number (hr.mono (by decide)) ps0 (pa_cons (pv 1) (pa_cons pe_int pa_nil))))))
      (pss_cons (ps_lcV [18] (ps_setLc (i := 3) (own := [("_law_number_here", 18)])  (by rfl) sc_law.nd rfl rfl (sw_true rfl rfl rfl (by decide +kernel)) (pi_listK K (pi_list (pv 2))) (blkOk_by (own := [("_law_number_here", 18)]) (N := ["_law_script", "_law_pool_here", "_law_a", "_law_b", "_law_c", "_law_d", "_law_nothing", "_law_times", "_law_kinds", "_law_given", "_law_one", "_law_other", "_law_third", "_law_fourth", "_law_empty", "_law_turn", "_law_way", "_law_k", "_law_number_here"]) (sc := defScope s_law) (by decide +kernel)) (fun _ _ _ _ _ => (pg_name (i := 18) sc_law.nd rfl (Or.inl rfl))) (fun _ _ _ _ _ => pts_nil) (fun _ _ _ _ _ => (pe_fn F__law_part (hr.mono (by decide)) ps0 (pa_cons (pv 1) (pa_cons (pv 18) pa_nil))))))
      (pss_cons (ps_lcV [18] (ps_setLc (i := 4) (own := [("_law_number_here", 18)])  (by rfl) sc_law.nd rfl rfl (sw_true rfl rfl rfl (by decide +kernel)) (pi_listK K (pi_list (pv 2))) (blkOk_by (own := [("_law_number_here", 18)]) (N := ["_law_script", "_law_pool_here", "_law_a", "_law_b", "_law_c", "_law_d", "_law_nothing", "_law_times", "_law_kinds", "_law_given", "_law_one", "_law_other", "_law_third", "_law_fourth", "_law_empty", "_law_turn", "_law_way", "_law_k", "_law_number_here"]) (sc := defScope s_law) (by decide +kernel)) (fun _ _ _ _ _ => (pg_name (i := 18) sc_law.nd rfl (Or.inl rfl))) (fun _ _ _ _ _ => pts_nil) (fun _ _ _ _ _ => (pe_fn F__law_signed (hr.mono (by decide)) ps0 (pa_cons (pv 1) (pa_cons pe_int pa_nil))))))
      (pss_cons (ps_lcV [18] (ps_setLc (i := 5) (own := [("_law_number_here", 18)])  (by rfl) sc_law.nd rfl rfl (sw_true rfl rfl rfl (by decide +kernel)) (pi_listK K (pi_list (pv 2))) (blkOk_by (own := [("_law_number_here", 18)]) (N := ["_law_script", "_law_pool_here", "_law_a", "_law_b", "_law_c", "_law_d", "_law_nothing", "_law_times", "_law_kinds", "_law_given", "_law_one", "_law_other", "_law_third", "_law_fourth", "_law_empty", "_law_turn", "_law_way", "_law_k", "_law_number_here"]) (sc := defScope s_law) (by decide +kernel)) (fun _ _ _ _ _ => (pg_name (i := 18) sc_law.nd rfl (Or.inl rfl))) (fun _ _ _ _ _ => pts_nil) (fun _ _ _ _ _ => (pe_fn F__law_signed (hr.mono (by decide)) ps0 (pa_cons (pv 1) (pa_cons pe_int pa_nil))))))
      (pss_cons (ps_lcV [18] (ps_setLc (i := 6) (own := [("_law_number_here", 18)])  (by rfl) sc_law.nd rfl rfl (sw_true rfl rfl rfl (by decide +kernel)) (pi_listK K (pi_list (pv 2))) (blkOk_by (own := [("_law_number_here", 18)]) (N := ["_law_script", "_law_pool_here", "_law_a", "_law_b", "_law_c", "_law_d", "_law_nothing", "_law_times", "_law_kinds", "_law_given", "_law_one", "_law_other", "_law_third", "_law_fourth", "_law_empty", "_law_turn", "_law_way", "_law_k", "_law_number_here"]) (sc := defScope s_law) (by decide +kernel)) (fun _ _ _ _ _ => (pg_name (i := 18) sc_law.nd rfl (Or.inl rfl))) (fun _ _ _ _ _ => pts_nil) (fun _ _ _ _ _ => pe_int)))
      (pss_cons (ps_asg (pe_fn F__law_signed (hr.mono (by decide)) (ps_of tk) (pa_cons (pv 1) (pa_cons pe_int pa_nil))) (pg_name (i := 7) sc_law.nd rfl (Or.inl rfl)))
      (pss_cons (ps_asg (pe_fn F__law_names (hr.mono (by decide)) (ps_of tk) (pa_cons (pv 1) pa_nil)) (pg_name (i := 8) sc_law.nd rfl (Or.inl rfl)))
      (pss_cons (ps_lcV [17] (ps_setLc (i := 9) (own := [("_law_k", 17)])  (by rfl) sc_law.nd rfl rfl (sw_true rfl rfl rfl (by decide +kernel)) (pi_range1 (by rfl) T.b_range (pa_cons pe_int pa_nil)) (blkOk_by (own := [("_law_k", 17)]) (N := ["_law_script", "_law_pool_here", "_law_a", "_law_b", "_law_c", "_law_d", "_law_nothing", "_law_times", "_law_kinds", "_law_given", "_law_one", "_law_other", "_law_third", "_law_fourth", "_law_empty", "_law_turn", "_law_way", "_law_k", "_law_number_here"]) (sc := defScope s_law) (by decide +kernel)) (fun _ _ _ _ _ => (pg_name (i := 17) sc_law.nd rfl (Or.inl rfl))) (fun _ _ _ _ _ => pts_nil) (fun _ _ _ _ _ => (pe_fn F__law_signed (hr.mono (by decide)) ps0 (pa_cons (pv 1) (pa_cons pe_int pa_nil))))))
      (pss_cons (ps_asg (pe_fn F__law_row (hr.mono (by decide)) (ps_of tk) (pa_cons (pv 2) pa_nil)) (pg_name (i := 10) sc_law.nd rfl (Or.inl rfl)))
      (pss_cons (ps_asg (pe_fn F__law_row (hr.mono (by decide)) (ps_of tk) (pa_cons (pv 3) pa_nil)) (pg_name (i := 11) sc_law.nd rfl (Or.inl rfl)))
      (pss_cons (ps_asg (pe_fn F__law_row (hr.mono (by decide)) (ps_of tk) (pa_cons (pv 4) pa_nil)) (pg_name (i := 12) sc_law.nd rfl (Or.inl rfl)))
      (pss_cons (ps_asg (pe_fn F__law_row (hr.mono (by decide)) (ps_of tk) (pa_cons (pv 5) pa_nil)) (pg_name (i := 13) sc_law.nd rfl (Or.inl rfl)))
      (pss_cons (ps_asg (pe_fn F__law_row (hr.mono (by decide)) (ps_of tk) (pa_cons (pv 6) pa_nil)) (pg_name (i := 14) sc_law.nd rfl (Or.inl rfl)))
      (pss_cons (ps_for (passes_of rfl) rfl (pi_range1 (by rfl) T.b_range (pa_cons pe_int pa_nil)) (pg_name (i := 15) sc_law.nd rfl (Or.inl rfl))
      (pss_cons (ps_if (PW.pt (pw_and (pt_cmpR (u_ne K hr.units) (pv 3) (pv 6) (nomark _)) (pw_and1 (pt_not (pt_tru K (pe_fn F__law_divided (hr.mono (by decide)) (ps_of tk) (pa_cons (pv 10) (pa_cons (pv 2) (pa_cons (pv 11) (pa_cons (pv 3) pa_nil))))) (by intro _; rfl))))))
      (pss_one (ps_ret pe_bl))
      pss_nil)
      (pss_cons (ps_if (PW.pt (pw_and (pt_cmpR (u_ne K hr.units) (pv 2) (pv 6) (nomark _)) (pw_and1 (pt_not (pt_tru K (pe_fn F__law_divided (hr.mono (by decide)) (ps_of tk) (pa_cons (pv 10) (pa_cons (pv 2) (pa_cons (pv 10) (pa_cons (pv 2) pa_nil))))) (by intro _; rfl))))))
      (pss_one (ps_ret pe_bl))
      pss_nil)
      (pss_cons (ps_if (PW.pt (pw_and (pt_cmpR (u_ne K hr.units) (pv 2) (pv 6) (nomark _)) (pw_and1 (pt_not (pt_tru K (pe_fn F__law_divided (hr.mono (by decide)) (ps_of tk) (pa_cons (pv 14) (pa_cons (pv 6) (pa_cons (pv 10) (pa_cons (pv 2) pa_nil))))) (by intro _; rfl))))))
      (pss_one (ps_ret pe_bl))
      pss_nil)
      (pss_cons (ps_for (passes_of rfl) rfl (pi_range1 (by rfl) T.b_range (pa_cons pe_int pa_nil)) (pg_name (i := 16) sc_law.nd rfl (Or.inl rfl))
      (pss_one (ps_if (pt_not (pt_tru K (pe_fn F__law_refused (hr.mono (by decide)) (ps_of tk) (pa_cons (pv 10) (pa_cons (pv 14) (pa_cons (pv 6) (pa_cons (pv 16) pa_nil))))) (by intro _; rfl)))
      (pss_one (ps_ret pe_bl))
      pss_nil)))
      (pss_cons (ps_if (PW.pt (pw_or (pt_not (pt_tru K (pe_fn F__law_sums (hr.mono (by decide)) (ps_of tk) (pa_cons (pv 12) (pa_cons (pv 4) (pa_cons (pv 13) (pa_cons (pv 5) (pa_cons (pv 7) pa_nil)))))) (by intro _; rfl))) (pw_or1 (pt_not (pt_tru K (pe_fn F__law_sums (hr.mono (by decide)) (ps_of tk) (pa_cons (pv 10) (pa_cons (pv 2) (pa_cons (pv 10) (pa_cons (pv 2) (pa_cons (pe_fn F__law_draw (hr.mono (by decide)) (ps_of tk) (pa_cons (pv 1) (pa_cons pe_int pa_nil))) pa_nil)))))) (by intro _; rfl))))))
      (pss_one (ps_ret pe_bl))
      pss_nil)
      (pss_one (ps_for (passes_of rfl) rfl (pi_range1 (by rfl) T.b_range (pa_cons pe_int pa_nil)) (pg_name (i := 16) sc_law.nd rfl (Or.inl rfl))
      (pss_one (ps_if (pt_not (pt_tru K (pe_fn F__law_asked (hr.mono (by decide)) (ps_of tk) (pa_cons (pv 8) (pa_cons (pv 9) (pa_cons (pv 16) pa_nil)))) (by intro _; rfl)))
      (pss_one (ps_ret pe_bl))
      pss_nil))))))))))
      (pss_cons (ps_if (PW.pt (pw_or (pt_not (pt_tru K (pe_fn F__law_is (hr.mono (by decide)) (ps_of tk) (pa_cons (pv 10) (pa_cons (pv 2) pa_nil))) (by intro _; rfl))) (pw_or (pt_not (pt_tru K (pe_fn F__law_is (hr.mono (by decide)) (ps_of tk) (pa_cons (pv 11) (pa_cons (pv 3) pa_nil))) (by intro _; rfl))) (pw_or1 (pt_not (pt_tru K (pe_fn F__law_is (hr.mono (by decide)) (ps_of tk) (pa_cons (pv 12) (pa_cons (pv 4) pa_nil))) (by intro _; rfl)))))))
      (pss_one (ps_ret pe_bl))
      pss_nil)
      (pss_one (ps_ret (pe_and (pe_fn F__law_is (hr.mono (by decide)) (ps_of tk) (pa_cons (pv 13) (pa_cons (pv 5) pa_nil))) (pe_one (pe_fn F__law_is (hr.mono (by decide)) (ps_of tk) (pa_cons (pv 14) (pa_cons (pv 6) pa_nil))))))))))))))))))))))), ?_⟩
  try dsimp only [L2H.cxH, cxOf, Cx.suite, Cx.tr, List.map_cons, List.map_nil]
  refine run_start (σ := [some (.ref a), none, none, none, none, none, none, none, none, none, none, none, none, none, none, none, none, none, none]) rfl ?_
  clear tk
  reads_via
  refine call_pool hS hn hb fun p H1 np e1 p1 => ?_
  reads_via
  refine call_draw p1 (by decide) (by decide) fun r H2 r0 r1 b2 p2 => ?_
  obtain ⟨n, hc, hc1, hc3⟩ : ∃ n : Nat, 1 + r = (n : Int) ∧ 1 ≤ n ∧ n ≤ 3 := ⟨(1 + r).toNat, by omega, by omega, by omega⟩
  reads_via
  rw [hc]
  refine r_rng1 (by omega) (by omega) ?_
  rw [Int.toNat_natCast]
  refine lcPool walk_range (by first | omega | (simp; omega)) p2 (fun i y => ∃ z, y = .int z ∧ (0 ≤ z ∧ z < 1000 ^ 10)) (fun _ _ => trivial) (fun _ _ _ _ h => h.1) (fun i x H1 k hi b1 p1 hy hk => ?_) fun qa ys0 H3 nqa b3 p3 hqa hlqa hrqa => ?_
  · obtain ⟨_, rfl⟩ := hy
    reads_via
    refine ⟨rfl, p, 10, rfl, p1, by decide, by decide, fun r2 H2 h3 h4 e2 p2 => ?_⟩
    exact hk _ _ e2 p2 ⟨_, rfl, h3, h4⟩
  obtain ⟨nx, rfl, hbnx⟩ := ints_of hrqa
  rw [List.length_map] at hlqa
  replace nqa := p2.ne nqa
  reads_via
  refine lcPool (walk_list (xs := nx.map V.int)) (by first | omega | (simp; omega)) p3 (fun i y => ∃ z, y = .int z ∧ (0 ≤ z ∧ z < 1000 ^ 10)) (fun H1 b1 => SqL.of (b1.look nqa (by got_up))) (fun _ _ _ _ h => h.1) (fun i x H1 k hi b1 p1 hy hk => ?_) fun qb ys0 H4 nqb b4 p4 hqb hlqb hrqb => ?_
  · obtain ⟨z, hz, rfl⟩ := map_at hy.2
    obtain ⟨z0, z1⟩ := hbnx z (List.mem_of_getElem? hz)
    reads_via
    refine ⟨rfl, p, z, rfl, p1, z0, z1, fun r2 H2 h3 h4 e2 p2 => ?_⟩
    exact hk _ _ e2 p2 ⟨_, rfl, h3, h4⟩
  obtain ⟨ny, rfl, hbny⟩ := ints_of hrqb
  rw [List.length_map, List.length_map] at hlqb
  replace nqb := p3.ne nqb
  replace hqa := b4.look nqa hqa
  reads_via
  refine lcPool (walk_list (xs := nx.map V.int)) (by first | omega | (simp; omega)) p4 (fun i y => ∃ z, y = .int z ∧ (-(1000 ^ 10) < z ∧ z < 1000 ^ 10)) (fun H1 b1 => SqL.of (b1.look nqa (by got_up))) (fun _ _ _ _ h => h.1) (fun i x H1 k hi b1 p1 hy hk => ?_) fun qc ys0 H5 nqc b5 p5 hqc hlqc hrqc => ?_
  · obtain ⟨z, hz, rfl⟩ := map_at hy.2
    reads_via
    refine ⟨rfl, p, 10, rfl, p1, by decide, by decide, fun r2 H2 h3 h4 e2 p2 => ?_⟩
    exact hk _ _ e2 p2 ⟨_, rfl, h3, h4⟩
  obtain ⟨nc, rfl, hbnc⟩ := ints_of hrqc
  rw [List.length_map, List.length_map] at hlqc
  replace nqc := p4.ne nqc
  replace hqa := b5.look nqa hqa
  replace hqb := b5.look nqb hqb
  reads_via
  refine lcPool (walk_list (xs := nx.map V.int)) (by first | omega | (simp; omega)) p5 (fun i y => ∃ z, y = .int z ∧ (-(1000 ^ 10) < z ∧ z < 1000 ^ 10)) (fun H1 b1 => SqL.of (b1.look nqa (by got_up))) (fun _ _ _ _ h => h.1) (fun i x H1 k hi b1 p1 hy hk => ?_) fun qd ys0 H6 nqd b6 p6 hqd hlqd hrqd => ?_
  · obtain ⟨z, hz, rfl⟩ := map_at hy.2
    reads_via
    refine ⟨rfl, p, 10, rfl, p1, by decide, by decide, fun r2 H2 h3 h4 e2 p2 => ?_⟩
    exact hk _ _ e2 p2 ⟨_, rfl, h3, h4⟩
  obtain ⟨nd, rfl, hbnd⟩ := ints_of hrqd
  rw [List.length_map, List.length_map] at hlqd
  replace nqd := p5.ne nqd
  replace hqa := b6.look nqa hqa
  replace hqb := b6.look nqb hqb
  replace hqc := b6.look nqc hqc
  reads_via
  refine lcPL (xs := nx.map V.int) (by got_up) (by simp; omega) (fun i => .int ((fun z => 0) (nx.getD i 0))) (fun i x H2 k hx e2 hk => ?_) fun qz H7 nqz e7 hqz => ?_
  · obtain ⟨hi, rfl⟩ := int_at hx
    reads_via
    exact hk _ Ext.rfl
  rw [List.length_map, rng_map fun z => 0, List.map_const', hlqa] at hqz
  replace nqz := p6.ne nqz
  have p7 := p6.ext e7
  replace hqa := e7.look hqa
  replace hqb := e7.look hqb
  replace hqc := e7.look hqc
  replace hqd := e7.look hqd
  clear b2 b3 b4 b5 b6 p1 p2 p3 p4 p5 p6 e1 e7
  reads_via
  refine ⟨rfl, p, 10, rfl, p7, by decide, by decide, fun tm H8 t0 t1 b8 p8 => ?_⟩
  replace hqa := b8.look nqa hqa
  replace hqb := b8.look nqb hqb
  replace hqc := b8.look nqc hqc
  replace hqd := b8.look nqd hqd
  replace hqz := b8.look nqz hqz
  reads_via
  refine ⟨rfl, p, rfl, p8, fun qk kinds H9 nqk kl1 kl3 knd b9 p9 hqk => ?_⟩
  replace nqk := p8.ne nqk
  replace hqa := b9.look nqa hqa
  replace hqb := b9.look nqb hqb
  replace hqc := b9.look nqc hqc
  replace hqd := b9.look nqd hqd
  replace hqz := b9.look nqz hqz
  reads_via
  have h3n : (3 : Int) = ((3 : Nat) : Int) := rfl
  refine lcPool walk_range (by decide) p9 (fun i y => ∃ z, y = .int z ∧ (-(1000 ^ 10) < z ∧ z < 1000 ^ 10)) (fun _ _ => trivial) (fun _ _ _ _ h => h.1) (fun i x H1 k hi b1 p1 hy hk => ?_) fun qg ys0 H10 nqg b10 p10 hqg hlqg hrqg => ?_
  · obtain ⟨_, rfl⟩ := hy
    reads_via
    refine ⟨rfl, p, 10, rfl, p1, by decide, by decide, fun r2 H2 h3 h4 e2 p2 => ?_⟩
    exact hk _ _ e2 p2 ⟨_, rfl, h3, h4⟩
  obtain ⟨ng, rfl, hbng⟩ := ints_of hrqg
  rw [List.length_map] at hlqg
  replace nqg := p9.ne nqg
  replace hqa := b10.look nqa hqa
  replace hqb := b10.look nqb hqb
  replace hqc := b10.look nqc hqc
  replace hqd := b10.look nqd hqd
  replace hqz := b10.look nqz hqz
  replace hqk := b10.look nqk hqk
  obtain ⟨g1, g2, g3, rfl⟩ : ∃ g1 g2 g3, ng = [g1, g2, g3] := by
    match ng, hlqg with
    | [g1, g2, g3], _ => exact ⟨g1, g2, g3, rfl⟩
  simp only [List.map_cons, List.map_nil] at hqg
  clear b8 b9 b10 p7 p8 p9 hlqg hbng
  reads_via
  refine ⟨rfl, qa, nx, rfl, by got_up, by omega, by omega, fun x1 d1 u1 H11 n1 e11 hx1 hu1 => ?_⟩
  reads_via
  refine ⟨rfl, qb, ny, rfl, by got_up, by omega, by omega, fun x2 d2 u2 H12 n2 e12 hx2 hu2 => ?_⟩
  reads_via
  refine ⟨rfl, qc, nc, rfl, by got_up, by omega, by omega, fun x3 d3 u3 H13 n3 e13 hx3 hu3 => ?_⟩
  reads_via
  refine ⟨rfl, qd, nd, rfl, by got_up, by omega, by omega, fun x4 d4 u4 H14 n4 e14 hx4 hu4 => ?_⟩
  reads_via
  refine ⟨rfl, qz, List.replicate n 0, rfl, by got_up, by simp; omega, by simp; omega, fun x5 d5 u5 H15 n5 e15 hx5 hu5 => ?_⟩
  have R1 : Row c H15 x1 qa nx := ⟨d1, u1, by with_reducible got_up, by with_reducible got_up, by with_reducible got_up⟩
  have R2 : Row c H15 x2 qb ny := ⟨d2, u2, by with_reducible got_up, by with_reducible got_up, by with_reducible got_up⟩
  have R3 : Row c H15 x3 qc nc := ⟨d3, u3, by with_reducible got_up, by with_reducible got_up, by with_reducible got_up⟩
  have R4 : Row c H15 x4 qd nd := ⟨d4, u4, by with_reducible got_up, by with_reducible got_up, by with_reducible got_up⟩
  have R5 : Row c H15 x5 qz (List.replicate n 0) := ⟨d5, u5, by with_reducible got_up, by with_reducible got_up, by with_reducible got_up⟩
  have e10 := (((e11.trans e12).trans e13).trans e14).trans e15
  have p15 := p10.ext e10
  replace hqk := e10.look hqk
  replace hqg := e10.look hqg
  clear e11 e12 e13 e14 e15 hx1 hx2 hx3 hx4 hx5 hu1 hu2 hu3 hu4 hu5 hqa hqb hqc hqd hqz e10 p10 n1 n2 n3 n4 n5
  reads_via
  refine f_range0 (fun t σ H' => ∃ w15 w16, σ = [some (.ref a), some (.ref p), some (.ref qa), some (.ref qb), some (.ref qc), some (.ref qd), some (.ref qz), some (.int tm), some (.ref qk), some (.ref qg), some (.ref x1), some (.ref x2), some (.ref x3), some (.ref x4), some (.ref x5), w15, w16, none, none] ∧ But p H15 H' ∧ Pool H' p) ⟨_, _, rfl, But.rfl, p15⟩ ?_ ?_
  · rintro t σ H16 ht ⟨w15, w16, rfl, b16, p16⟩
    have r1 := R1.but p15 b16 nqa
    have r2 := R2.but p15 b16 nqb
    have r3 := R3.but p15 b16 nqc
    have r4 := R4.but p15 b16 nqd
    have r5 := R5.but p15 b16 nqz
    have hk16 := b16.look nqk hqk
    have hg16 := b16.look nqg hqg
    have e00 : Ext H16 H16 := Ext.rfl
    o_reads
    refine run_cut (fun σ' H' => σ' = [some (.ref a), some (.ref p), some (.ref qa), some (.ref qb), some (.ref qc), some (.ref qd), some (.ref qz), some (.int tm), some (.ref qk), some (.ref qg), some (.ref x1), some (.ref x2), some (.ref x3), some (.ref x4), some (.ref x5), some (.int (t : Int)), w16, none, none] ∧ Ext H16 H') (fun nx' hn => ?_) ?_
    · reads_via
      refine v_neLI (r2.ext e00).lst (r5.ext e00).lst ?_
      reads_via
      refine br_d (fun c1 => ?_) (fun c1 => ?_)
      · reads_via
        exact hn _ _ ⟨rfl, e00⟩
      · reads_via
        refine call_divided (r1.ext e00) (r2.ext e00) (by omega) (by omega) (by omega) hbnx hbny (by rw [hlqb, hlqa]; exact c1) fun H17 e17 => ?_
        reads_via
        exact hn _ _ ⟨rfl, e17⟩
    rintro σ' H17 ⟨rfl, e01⟩
    o_reads
    refine run_cut (fun σ' H' => σ' = [some (.ref a), some (.ref p), some (.ref qa), some (.ref qb), some (.ref qc), some (.ref qd), some (.ref qz), some (.int tm), some (.ref qk), some (.ref qg), some (.ref x1), some (.ref x2), some (.ref x3), some (.ref x4), some (.ref x5), some (.int (t : Int)), w16, none, none] ∧ Ext H16 H') (fun nx' hn => ?_) ?_
    · reads_via
      refine v_neLI (r1.ext e01).lst (r5.ext e01).lst ?_
      reads_via
      refine br_d (fun c1 => ?_) (fun c1 => ?_)
      · reads_via
        exact hn _ _ ⟨rfl, e01⟩
      · reads_via
        refine call_divided (r1.ext e01) (r1.ext e01) (by omega) (by omega) (by omega) hbnx hbnx (by rw [hlqa]; exact c1) fun H18 e18 => ?_
        reads_via
        exact hn _ _ ⟨rfl, e01.trans e18⟩
    rintro σ' H18 ⟨rfl, e02⟩
    o_reads
    refine run_cut (fun σ' H' => σ' = [some (.ref a), some (.ref p), some (.ref qa), some (.ref qb), some (.ref qc), some (.ref qd), some (.ref qz), some (.int tm), some (.ref qk), some (.ref qg), some (.ref x1), some (.ref x2), some (.ref x3), some (.ref x4), some (.ref x5), some (.int (t : Int)), w16, none, none] ∧ Ext H16 H') (fun nx' hn => ?_) ?_
    · reads_via
      refine v_neLI (r1.ext e02).lst (r5.ext e02).lst ?_
      reads_via
      refine br_d (fun c1 => ?_) (fun c1 => ?_)
      · reads_via
        exact hn _ _ ⟨rfl, e02⟩
      · reads_via
        refine call_divided (r5.ext e02) (r1.ext e02) (by simp; omega) (by simp; omega) (by simp; omega) (fun z hz => by rw [List.eq_of_mem_replicate hz]; decide) hbnx (by rw [hlqa]; exact c1) fun H19 e19 => ?_
        reads_via
        exact hn _ _ ⟨rfl, e02.trans e19⟩
    rintro σ' H19 ⟨rfl, e03⟩
    reads_via
    refine f_range0 (fun j σ H' => ∃ w16, σ = [some (.ref a), some (.ref p), some (.ref qa), some (.ref qb), some (.ref qc), some (.ref qd), some (.ref qz), some (.int tm), some (.ref qk), some (.ref qg), some (.ref x1), some (.ref x2), some (.ref x3), some (.ref x4), some (.ref x5), some (.int (t : Int)), w16, none, none] ∧ Ext H16 H') ⟨_, rfl, e03⟩ ?_ ?_
    · rintro j σ H20 hj ⟨w16, rfl, e04⟩
      reads_via
      refine call_refused (r1.ext e04) (by rw [hlqa]; exact r5.ext e04) (by omega) (by omega) hbnx hj fun H21 e21 => ?_
      reads_via
      exact ⟨_, rfl, e04.trans e21⟩
    rintro σ' H20 ⟨w17, rfl, e04⟩
    reads_via
    refine call_sums (r3.ext e04) (r4.ext e04) (by omega) (by omega) (by omega) hbnc ⟨t0, t1⟩ fun H21 e21 => ?_
    have e05 := e04.trans e21
    reads_via
    refine call_draw (p16.ext e05) (by decide) (by decide) fun rr H22 rr0 rr1 b22 p22 => ?_
    have r1' := (r1.ext e05).but (p16.ext e05) b22 nqa
    have hk22 := b22.look nqk (e05.look hk16)
    have hg22 := b22.look nqg (e05.look hg16)
    have b022 : But p H15 H22 := (b16.exts e05).trans b22
    clear r1 r2 r3 r4 r5 hk16 hg16 e00 e01 e02 e03 e04 e05 e21 b22
    reads_via
    refine call_sums r1' r1' (by omega) (by omega) rfl (fun z hz => ⟨by have := hbnx z hz; omega, (hbnx z hz).2⟩) ⟨by omega, by omega⟩ fun H23 e23 => ?_
    reads_via
    refine f_range0 (fun j σ H' => ∃ w16, σ = [some (.ref a), some (.ref p), some (.ref qa), some (.ref qb), some (.ref qc), some (.ref qd), some (.ref qz), some (.int tm), some (.ref qk), some (.ref qg), some (.ref x1), some (.ref x2), some (.ref x3), some (.ref x4), some (.ref x5), some (.int (t : Int)), w16, none, none] ∧ Ext H22 H') ⟨_, rfl, e23⟩ ?_ ?_
    · rintro j σ H24 hj ⟨w16, rfl, e24⟩
      reads_via
      refine call_asked (e24.look hk22) (e24.look hg22) kl1 kl3 knd hj fun H25 e25 => ?_
      reads_via
      exact ⟨_, rfl, e24.trans e25⟩
    rintro σ' H24 ⟨w18, rfl, e24⟩
    exact ⟨_, _, rfl, b022.exts e24, p22.ext e24⟩
  · rintro σ H16 ⟨w15, w16, rfl, b16, p16⟩
    have r1 := R1.but p15 b16 nqa
    have r2 := R2.but p15 b16 nqb
    have r3 := R3.but p15 b16 nqc
    have r4 := R4.but p15 b16 nqd
    have r5 := R5.but p15 b16 nqz
    reads_via
    refine call_is r1 (by omega) (by omega) fun H17 e17 => ?_
    reads_via
    refine call_is (r2.ext e17) (by omega) (by omega) fun H18 e18 => ?_
    reads_via
    refine call_is ((r3.ext e17).ext e18) (by omega) (by omega) fun H19 e19 => ?_
    reads_via
    refine call_is (((r4.ext e17).ext e18).ext e19) (by omega) (by omega) fun H20 e20 => ?_
    reads_via
    refine call_is ((((r5.ext e17).ext e18).ext e19).ext e20) (by simp; omega) (by simp; omega) fun H21 e21 => ?_
    exact k _
end K05
namespace K05
open PySem L2 GG PyProof.Rows
abbrev s_E : Stmt := (inClass (top 1) 0)
theorem all_mk {l : PySem.W.OpenLaw} {w : World} {K : PySem.W.Frag} {h : Heap} {mg : Str → Option Value} {fa : Addr} {A_GangError A_BadShare A_BadAmounts A_Unknown A_Amounts A_fE : Addr} (X : K.In h) (G : h.Ns mainGlobals mg) (hfa : mg "law" = some (.ref fa))
    {fo_Amounts_mul ro_Amounts_mul : Option Value}
    {fr_Amounts_mul : Addr}
    {oc_E dc_E pm_E cd_E ct_E : Value} {od_E an_E : Option Addr} {sl_E : Array (Option Value)}
    {nm_BadAmounts q_BadAmounts : Str} {N_BadAmounts : Addr} {bs_BadAmounts : List Value} {sn_BadAmounts : List Str} {sub_BadAmounts : List Value} {ab_BadAmounts : Bool} {col_BadAmounts : Option Bool} {dd_BadAmounts : Option Addr} {m0_BadAmounts m1_BadAmounts m2_BadAmounts m3_BadAmounts m5_BadAmounts : Option Value}
    {nm_Unknown q_Unknown : Str} {N_Unknown : Addr} {bs_Unknown : List Value} {sn_Unknown : List Str} {sub_Unknown : List Value} {ab_Unknown : Bool} {col_Unknown : Option Bool} {dd_Unknown : Option Addr} {m0_Unknown m1_Unknown m2_Unknown m3_Unknown m5_Unknown : Option Value}
    {f__law_draw : Addr} {od__law_draw an__law_draw : Option Addr} {sl__law_draw : Array (Option Value)} {oc__law_draw kV__law_draw dc__law_draw pm__law_draw cd__law_draw ct__law_draw : Value}
    {f__law_pool : Addr} {od__law_pool an__law_pool : Option Addr} {sl__law_pool : Array (Option Value)} {oc__law_pool kV__law_pool dc__law_pool pm__law_pool cd__law_pool ct__law_pool : Value}
    {f_Amounts___init__ : Addr} {od_Amounts___init__ an_Amounts___init__ : Option Addr} {sl_Amounts___init__ : Array (Option Value)} {oc_Amounts___init__ kV_Amounts___init__ dc_Amounts___init__ pm_Amounts___init__ cd_Amounts___init__ ct_Amounts___init__ : Value}
    {f_paired : Addr} {od_paired an_paired : Option Addr} {sl_paired : Array (Option Value)} {oc_paired kV_paired dc_paired pm_paired cd_paired ct_paired : Value}
    {f_Amounts___sub__ : Addr} {od_Amounts___sub__ an_Amounts___sub__ : Option Addr} {sl_Amounts___sub__ : Array (Option Value)} {oc_Amounts___sub__ kV_Amounts___sub__ dc_Amounts___sub__ pm_Amounts___sub__ cd_Amounts___sub__ ct_Amounts___sub__ : Value}
    {f_Amounts___add__ : Addr} {od_Amounts___add__ an_Amounts___add__ : Option Addr} {sl_Amounts___add__ : Array (Option Value)} {oc_Amounts___add__ kV_Amounts___add__ dc_Amounts___add__ pm_Amounts___add__ cd_Amounts___add__ ct_Amounts___add__ : Value}
    {f_Amounts___mul__ : Addr} {od_Amounts___mul__ an_Amounts___mul__ : Option Addr} {sl_Amounts___mul__ : Array (Option Value)} {oc_Amounts___mul__ kV_Amounts___mul__ dc_Amounts___mul__ pm_Amounts___mul__ cd_Amounts___mul__ ct_Amounts___mul__ : Value}
    {f_Amounts___floordiv__ : Addr} {od_Amounts___floordiv__ an_Amounts___floordiv__ : Option Addr} {sl_Amounts___floordiv__ : Array (Option Value)} {oc_Amounts___floordiv__ kV_Amounts___floordiv__ dc_Amounts___floordiv__ pm_Amounts___floordiv__ cd_Amounts___floordiv__ ct_Amounts___floordiv__ : Value}
    {f_Amounts___mod__ : Addr} {od_Amounts___mod__ an_Amounts___mod__ : Option Addr} {sl_Amounts___mod__ : Array (Option Value)} {oc_Amounts___mod__ kV_Amounts___mod__ dc_Amounts___mod__ pm_Amounts___mod__ cd_Amounts___mod__ ct_Amounts___mod__ : Value}
    {f_Amounts___rmul__ : Addr} {od_Amounts___rmul__ an_Amounts___rmul__ : Option Addr} {sl_Amounts___rmul__ : Array (Option Value)} {oc_Amounts___rmul__ kV_Amounts___rmul__ dc_Amounts___rmul__ pm_Amounts___rmul__ cd_Amounts___rmul__ ct_Amounts___rmul__ : Value}
    {f_Amounts___neg__ : Addr} {od_Amounts___neg__ an_Amounts___neg__ : Option Addr} {sl_Amounts___neg__ : Array (Option Value)} {oc_Amounts___neg__ kV_Amounts___neg__ dc_Amounts___neg__ pm_Amounts___neg__ cd_Amounts___neg__ ct_Amounts___neg__ : Value}
    {f_Amounts___abs__ : Addr} {od_Amounts___abs__ an_Amounts___abs__ : Option Addr} {sl_Amounts___abs__ : Array (Option Value)} {oc_Amounts___abs__ kV_Amounts___abs__ dc_Amounts___abs__ pm_Amounts___abs__ cd_Amounts___abs__ ct_Amounts___abs__ : Value}
    {f_Amounts_of : Addr} {od_Amounts_of an_Amounts_of : Option Addr} {sl_Amounts_of : Array (Option Value)} {oc_Amounts_of kV_Amounts_of dc_Amounts_of pm_Amounts_of cd_Amounts_of ct_Amounts_of : Value}
    {p_Amounts_of : Addr} {rest_Amounts_of : List Value}
    {f__law_number : Addr} {od__law_number an__law_number : Option Addr} {sl__law_number : Array (Option Value)} {oc__law_number kV__law_number dc__law_number pm__law_number cd__law_number ct__law_number : Value}
    {f__law_signed : Addr} {od__law_signed an__law_signed : Option Addr} {sl__law_signed : Array (Option Value)} {oc__law_signed kV__law_signed dc__law_signed pm__law_signed cd__law_signed ct__law_signed : Value}
    {f__law_whole : Addr} {od__law_whole an__law_whole : Option Addr} {sl__law_whole : Array (Option Value)} {oc__law_whole kV__law_whole dc__law_whole pm__law_whole cd__law_whole ct__law_whole : Value}
    {f__law_row : Addr} {od__law_row an__law_row : Option Addr} {sl__law_row : Array (Option Value)} {oc__law_row kV__law_row dc__law_row pm__law_row cd__law_row ct__law_row : Value}
    {f__law_is : Addr} {od__law_is an__law_is : Option Addr} {sl__law_is : Array (Option Value)} {oc__law_is kV__law_is dc__law_is pm__law_is cd__law_is ct__law_is : Value}
    {f__law_part : Addr} {od__law_part an__law_part : Option Addr} {sl__law_part : Array (Option Value)} {oc__law_part kV__law_part dc__law_part pm__law_part cd__law_part ct__law_part : Value}
    {f__law_divided : Addr} {od__law_divided an__law_divided : Option Addr} {sl__law_divided : Array (Option Value)} {oc__law_divided kV__law_divided dc__law_divided pm__law_divided cd__law_divided ct__law_divided : Value}
    {f__law_refused : Addr} {od__law_refused an__law_refused : Option Addr} {sl__law_refused : Array (Option Value)} {oc__law_refused kV__law_refused dc__law_refused pm__law_refused cd__law_refused ct__law_refused : Value}
    {f__law_sums : Addr} {od__law_sums an__law_sums : Option Addr} {sl__law_sums : Array (Option Value)} {oc__law_sums kV__law_sums dc__law_sums pm__law_sums cd__law_sums ct__law_sums : Value}
    {f__law_names : Addr} {od__law_names an__law_names : Option Addr} {sl__law_names : Array (Option Value)} {oc__law_names kV__law_names dc__law_names pm__law_names cd__law_names ct__law_names : Value}
    {f__law_made : Addr} {od__law_made an__law_made : Option Addr} {sl__law_made : Array (Option Value)} {oc__law_made kV__law_made dc__law_made pm__law_made cd__law_made ct__law_made : Value}
    {f__law_asked : Addr} {od__law_asked an__law_asked : Option Addr} {sl__law_asked : Array (Option Value)} {oc__law_asked kV__law_asked dc__law_asked pm__law_asked cd__law_asked ct__law_asked : Value}
    {f_law : Addr} {od_law an_law : Option Addr} {sl_law : Array (Option Value)} {oc_law kV_law dc_law pm_law cd_law ct_law : Value}
    (z_ValueError : PySem.W.nsIn K mainGlobals "ValueError" = some none)
    (z_len : PySem.W.nsIn K mainGlobals "len" = some none)
    (z_int : PySem.W.nsIn K mainGlobals "int" = some none)
    (z_abs : PySem.W.nsIn K mainGlobals "abs" = some none)
    (z_isinstance : PySem.W.nsIn K mainGlobals "isinstance" = some none)
    (z_bool : PySem.W.nsIn K mainGlobals "bool" = some none)
    (z_range : PySem.W.nsIn K mainGlobals "range" = some none)
    (z_list : PySem.W.nsIn K mainGlobals "list" = some none)
    (z_zip : PySem.W.nsIn K mainGlobals "zip" = some none)
    (z_min : PySem.W.nsIn K mainGlobals "min" = some none)
    (z_tuple : PySem.W.nsIn K mainGlobals "tuple" = some none)
    (z_sum : PySem.W.nsIn K mainGlobals "sum" = some none)
    (a_GangError : PySem.W.nsIn K mainGlobals "GangError" = some (some (.ref A_GangError)))
    (a_BadShare : PySem.W.nsIn K mainGlobals "BadShare" = some (some (.ref A_BadShare)))
    (a_BadAmounts : PySem.W.nsIn K mainGlobals "BadAmounts" = some (some (.ref A_BadAmounts)))
    (a_Unknown : PySem.W.nsIn K mainGlobals "Unknown" = some (some (.ref A_Unknown)))
    (a_Amounts : PySem.W.nsIn K mainGlobals "Amounts" = some (some (.ref A_Amounts)))
    (hn0 : PySem.W.specialIn K (.builtin "object.__class__") "__get__" = some (some (.builtin "getset_descriptor.__get__")))
    (ht0 : PySem.W.takesIn K (.builtin "object.__class__") = some true)
    (pg_Amounts : PySem.W.plainGet K A_Amounts Str.empty = true)
    (hd_Amounts : PySem.W.hasDictIn K A_Amounts = true)
    (po_Amounts : PySem.W.plainOver K A_Amounts = true)
    (sa_Amounts : PySem.W.findIn K (.ref A_Amounts) "__setattr__" = some (some (.builtin "object.__setattr__")))
    (mk_Amounts : PySem.W.makesIn K A_Amounts = true)
    (kc_Amounts : PySem.W.keepIn K (.ref A_Amounts) = true)
    (sf_Amounts : PySem.W.selfFirst K A_Amounts = true)
    (ha_Amounts : PySem.W.findIn K (.ref A_Amounts) "__class__" = some (some (.builtin "object.__class__")))
    (hm_Amounts : PySem.W.mroIn K A_Amounts (.type "object") = some true)
    (na_Amounts_numbers : PySem.W.findIn K (.ref A_Amounts) "numbers" = some none)
    (ei1_Amounts : PySem.W.subIn K (.type "int") (.ref A_Amounts) = some false)
    (ei2_Amounts : PySem.W.subIn K (.type "tuple") (.ref A_Amounts) = some false)
    (ei3_Amounts : PySem.W.subIn K (.ref A_Amounts) (.type "int") = some false)
    (r1_Amounts_mul : PySem.W.findIn K (.type "int") "__mul__" = some fo_Amounts_mul)
    (r2_Amounts_mul : PySem.W.findIn K (.type "int") "__rmul__" = some ro_Amounts_mul)
    (r3_Amounts_mul : PySem.W.findIn K (.ref A_Amounts) "__rmul__" = some (some (.ref fr_Amounts_mul)))
    (r4_Amounts_mul : PySem.W.subIn K (.type "int") (.ref A_Amounts) = some false)
    (ei_BadAmounts : PySem.W.findIn K (.ref A_BadAmounts) "__init__" = some (some (.ref A_fE)))
    (l_E : K.lookup A_fE = some ⟨oc_E, od_E, .func (PySem.W.fnOf "__init__" "GangError.__init__" (defArgs s_E) (defBody s_E) (defScope s_E) .none .none dc_E pm_E an_E cd_E ct_E), sl_E⟩)
    (c_E : PySem.W.codeIn K cd_E "GangError.__init__" = true)
    (t_E : PySem.W.typeIn K (.ref A_fE) = some (.type "function"))
    (xL_BadAmounts : K.lookup A_BadAmounts = some (excClassObj nm_BadAmounts q_BadAmounts A_BadAmounts N_BadAmounts bs_BadAmounts [.ref A_GangError, .type "ValueError", .type "Exception", .type "BaseException", .type "object"] true sn_BadAmounts sub_BadAmounts ab_BadAmounts col_BadAmounts dd_BadAmounts m0_BadAmounts m1_BadAmounts m2_BadAmounts m3_BadAmounts m5_BadAmounts "ValueError.__new__"))
    (esa_BadAmounts : PySem.W.findIn K (.ref A_BadAmounts) "__setattr__" = some (some (.builtin "object.__setattr__")))
    (ega_BadAmounts : PySem.W.findIn K (.ref A_BadAmounts) "__getattribute__" = some (some (.builtin "BaseException.__getattribute__")))
    (egg_BadAmounts : PySem.W.findIn K (.ref A_BadAmounts) "__getattr__" = some none)
    (ens_BadAmounts : PySem.W.findIn K (.ref A_BadAmounts) "subject" = some none)
    (ek_BadAmounts : PySem.W.keepIn K (.ref A_BadAmounts) = true)
    (ebe_BadAmounts : PySem.W.subIn K (.ref A_BadAmounts) (.type "BaseException") = some true)
    (ety_BadAmounts : PySem.W.typeIn K (.ref A_BadAmounts) = some (.type "type"))
    (ehd_BadAmounts : PySem.W.hasDictIn K A_BadAmounts = true)
    (eha_BadAmounts : PySem.W.findIn K (.ref A_BadAmounts) "__class__" = some (some (.builtin "object.__class__")))
    (ehm_BadAmounts : PySem.W.mroIn K A_BadAmounts (.type "object") = some true)
    (xL_Unknown : K.lookup A_Unknown = some (excClassObj nm_Unknown q_Unknown A_Unknown N_Unknown bs_Unknown [.ref A_GangError, .type "ValueError", .type "Exception", .type "BaseException", .type "object"] true sn_Unknown sub_Unknown ab_Unknown col_Unknown dd_Unknown m0_Unknown m1_Unknown m2_Unknown m3_Unknown m5_Unknown "ValueError.__new__"))
    (esa_Unknown : PySem.W.findIn K (.ref A_Unknown) "__setattr__" = some (some (.builtin "object.__setattr__")))
    (ega_Unknown : PySem.W.findIn K (.ref A_Unknown) "__getattribute__" = some (some (.builtin "BaseException.__getattribute__")))
    (egg_Unknown : PySem.W.findIn K (.ref A_Unknown) "__getattr__" = some none)
    (ens_Unknown : PySem.W.findIn K (.ref A_Unknown) "subject" = some none)
    (ei_Unknown : PySem.W.findIn K (.ref A_Unknown) "__init__" = some (some (.ref A_fE)))
    (ek_Unknown : PySem.W.keepIn K (.ref A_Unknown) = true)
    (ebe_Unknown : PySem.W.subIn K (.ref A_Unknown) (.type "BaseException") = some true)
    (ety_Unknown : PySem.W.typeIn K (.ref A_Unknown) = some (.type "type"))
    (ehd_Unknown : PySem.W.hasDictIn K A_Unknown = true)
    (eha_Unknown : PySem.W.findIn K (.ref A_Unknown) "__class__" = some (some (.builtin "object.__class__")))
    (ehm_Unknown : PySem.W.mroIn K A_Unknown (.type "object") = some true)
    (cb_GangError : PySem.W.subIn K (.ref A_GangError) (.type "BaseException") = some true)
    (ch_GangError : PySem.W.hasDictIn K A_GangError = true)
    (ct_GangError : PySem.W.typeIn K (.ref A_GangError) = some (.type "type"))
    (cs_BadAmounts_GangError : PySem.W.subIn K (.ref A_BadAmounts) (.ref A_GangError) = some true)
    (cs_Unknown_GangError : PySem.W.subIn K (.ref A_Unknown) (.ref A_GangError) = some true)
    (k_BadAmounts_BadAmounts : PySem.W.kitOne K (.ref A_BadAmounts) (.ref A_BadAmounts) = some true)
    (k_BadAmounts_ValueError : PySem.W.kitOne K (.ref A_BadAmounts) (.type "ValueError") = some true)
    (k_BadAmounts_BadShare : PySem.W.kitOne K (.ref A_BadAmounts) (.ref A_BadShare) = some false)
    (k_BadAmounts_Unknown : PySem.W.kitOne K (.ref A_BadAmounts) (.ref A_Unknown) = some false)
    (k_Unknown_Unknown : PySem.W.kitOne K (.ref A_Unknown) (.ref A_Unknown) = some true)
    (k_Unknown_ValueError : PySem.W.kitOne K (.ref A_Unknown) (.type "ValueError") = some true)
    (k_Unknown_BadAmounts : PySem.W.kitOne K (.ref A_Unknown) (.ref A_BadAmounts) = some false)
    (a__law_draw : PySem.W.nsIn K mainGlobals "_law_draw" = some (some (.ref f__law_draw)))
    (l__law_draw : K.lookup f__law_draw = some ⟨oc__law_draw, od__law_draw, .func (PySem.W.fnOf "_law_draw" "_law_draw" (defArgs s__law_draw) (defBody s__law_draw) (defScope s__law_draw) .none kV__law_draw dc__law_draw pm__law_draw an__law_draw cd__law_draw ct__law_draw), sl__law_draw⟩)
    (c__law_draw : PySem.W.codeIn K cd__law_draw "_law_draw" = true)
    (k__law_draw : PySem.W.keepIn K (.ref f__law_draw) = true)
    (a__law_pool : PySem.W.nsIn K mainGlobals "_law_pool" = some (some (.ref f__law_pool)))
    (l__law_pool : K.lookup f__law_pool = some ⟨oc__law_pool, od__law_pool, .func (PySem.W.fnOf "_law_pool" "_law_pool" (defArgs s__law_pool) (defBody s__law_pool) (defScope s__law_pool) .none kV__law_pool dc__law_pool pm__law_pool an__law_pool cd__law_pool ct__law_pool), sl__law_pool⟩)
    (c__law_pool : PySem.W.codeIn K cd__law_pool "_law_pool" = true)
    (k__law_pool : PySem.W.keepIn K (.ref f__law_pool) = true)
    (a_Amounts___init__ : PySem.W.findIn K (.ref A_Amounts) "__init__" = some (some (.ref f_Amounts___init__)))
    (i_Amounts___init__ : PySem.W.isFn K (.ref f_Amounts___init__) = true)
    (l_Amounts___init__ : K.lookup f_Amounts___init__ = some ⟨oc_Amounts___init__, od_Amounts___init__, .func (PySem.W.fnOf "__init__" "Amounts.__init__" (defArgs s_Amounts___init__) (defBody s_Amounts___init__) (defScope s_Amounts___init__) .none kV_Amounts___init__ dc_Amounts___init__ pm_Amounts___init__ an_Amounts___init__ cd_Amounts___init__ ct_Amounts___init__), sl_Amounts___init__⟩)
    (c_Amounts___init__ : PySem.W.codeIn K cd_Amounts___init__ "Amounts.__init__" = true)
    (k_Amounts___init__ : PySem.W.keepIn K (.ref f_Amounts___init__) = true)
    (a_paired : PySem.W.nsIn K mainGlobals "paired" = some (some (.ref f_paired)))
    (l_paired : K.lookup f_paired = some ⟨oc_paired, od_paired, .func (PySem.W.fnOf "paired" "paired" (defArgs s_paired) (defBody s_paired) (defScope s_paired) .none kV_paired dc_paired pm_paired an_paired cd_paired ct_paired), sl_paired⟩)
    (c_paired : PySem.W.codeIn K cd_paired "paired" = true)
    (k_paired : PySem.W.keepIn K (.ref f_paired) = true)
    (a_Amounts___sub__ : PySem.W.findIn K (.ref A_Amounts) "__sub__" = some (some (.ref f_Amounts___sub__)))
    (i_Amounts___sub__ : PySem.W.isFn K (.ref f_Amounts___sub__) = true)
    (l_Amounts___sub__ : K.lookup f_Amounts___sub__ = some ⟨oc_Amounts___sub__, od_Amounts___sub__, .func (PySem.W.fnOf "__sub__" "Amounts.__sub__" (defArgs s_Amounts___sub__) (defBody s_Amounts___sub__) (defScope s_Amounts___sub__) .none kV_Amounts___sub__ dc_Amounts___sub__ pm_Amounts___sub__ an_Amounts___sub__ cd_Amounts___sub__ ct_Amounts___sub__), sl_Amounts___sub__⟩)
    (c_Amounts___sub__ : PySem.W.codeIn K cd_Amounts___sub__ "Amounts.__sub__" = true)
    (k_Amounts___sub__ : PySem.W.keepIn K (.ref f_Amounts___sub__) = true)
    (a_Amounts___add__ : PySem.W.findIn K (.ref A_Amounts) "__add__" = some (some (.ref f_Amounts___add__)))
    (i_Amounts___add__ : PySem.W.isFn K (.ref f_Amounts___add__) = true)
    (l_Amounts___add__ : K.lookup f_Amounts___add__ = some ⟨oc_Amounts___add__, od_Amounts___add__, .func (PySem.W.fnOf "__add__" "Amounts.__add__" (defArgs s_Amounts___add__) (defBody s_Amounts___add__) (defScope s_Amounts___add__) .none kV_Amounts___add__ dc_Amounts___add__ pm_Amounts___add__ an_Amounts___add__ cd_Amounts___add__ ct_Amounts___add__), sl_Amounts___add__⟩)
    (c_Amounts___add__ : PySem.W.codeIn K cd_Amounts___add__ "Amounts.__add__" = true)
    (k_Amounts___add__ : PySem.W.keepIn K (.ref f_Amounts___add__) = true)
    (a_Amounts___mul__ : PySem.W.findIn K (.ref A_Amounts) "__mul__" = some (some (.ref f_Amounts___mul__)))
    (i_Amounts___mul__ : PySem.W.isFn K (.ref f_Amounts___mul__) = true)
    (l_Amounts___mul__ : K.lookup f_Amounts___mul__ = some ⟨oc_Amounts___mul__, od_Amounts___mul__, .func (PySem.W.fnOf "__mul__" "Amounts.__mul__" (defArgs s_Amounts___mul__) (defBody s_Amounts___mul__) (defScope s_Amounts___mul__) .none kV_Amounts___mul__ dc_Amounts___mul__ pm_Amounts___mul__ an_Amounts___mul__ cd_Amounts___mul__ ct_Amounts___mul__), sl_Amounts___mul__⟩)
    (c_Amounts___mul__ : PySem.W.codeIn K cd_Amounts___mul__ "Amounts.__mul__" = true)
    (k_Amounts___mul__ : PySem.W.keepIn K (.ref f_Amounts___mul__) = true)
    (a_Amounts___floordiv__ : PySem.W.findIn K (.ref A_Amounts) "__floordiv__" = some (some (.ref f_Amounts___floordiv__)))
    (i_Amounts___floordiv__ : PySem.W.isFn K (.ref f_Amounts___floordiv__) = true)
    (l_Amounts___floordiv__ : K.lookup f_Amounts___floordiv__ = some ⟨oc_Amounts___floordiv__, od_Amounts___floordiv__, .func (PySem.W.fnOf "__floordiv__" "Amounts.__floordiv__" (defArgs s_Amounts___floordiv__) (defBody s_Amounts___floordiv__) (defScope s_Amounts___floordiv__) .none kV_Amounts___floordiv__ dc_Amounts___floordiv__ pm_Amounts___floordiv__ an_Amounts___floordiv__ cd_Amounts___floordiv__ ct_Amounts___floordiv__), sl_Amounts___floordiv__⟩)
    (c_Amounts___floordiv__ : PySem.W.codeIn K cd_Amounts___floordiv__ "Amounts.__floordiv__" = true)
    (k_Amounts___floordiv__ : PySem.W.keepIn K (.ref f_Amounts___floordiv__) = true)
    (a_Amounts___mod__ : PySem.W.findIn K (.ref A_Amounts) "__mod__" = some (some (.ref f_Amounts___mod__)))
    (i_Amounts___mod__ : PySem.W.isFn K (.ref f_Amounts___mod__) = true)
    (l_Amounts___mod__ : K.lookup f_Amounts___mod__ = some ⟨oc_Amounts___mod__, od_Amounts___mod__, .func (PySem.W.fnOf "__mod__" "Amounts.__mod__" (defArgs s_Amounts___mod__) (defBody s_Amounts___mod__) (defScope s_Amounts___mod__) .none kV_Amounts___mod__ dc_Amounts___mod__ pm_Amounts___mod__ an_Amounts___mod__ cd_Amounts___mod__ ct_Amounts___mod__), sl_Amounts___mod__⟩)
    (c_Amounts___mod__ : PySem.W.codeIn K cd_Amounts___mod__ "Amounts.__mod__" = true)
    (k_Amounts___mod__ : PySem.W.keepIn K (.ref f_Amounts___mod__) = true)
    (a_Amounts___rmul__ : PySem.W.findIn K (.ref A_Amounts) "__rmul__" = some (some (.ref f_Amounts___rmul__)))
    (i_Amounts___rmul__ : PySem.W.isFn K (.ref f_Amounts___rmul__) = true)
    (l_Amounts___rmul__ : K.lookup f_Amounts___rmul__ = some ⟨oc_Amounts___rmul__, od_Amounts___rmul__, .func (PySem.W.fnOf "__rmul__" "Amounts.__rmul__" (defArgs s_Amounts___rmul__) (defBody s_Amounts___rmul__) (defScope s_Amounts___rmul__) .none kV_Amounts___rmul__ dc_Amounts___rmul__ pm_Amounts___rmul__ an_Amounts___rmul__ cd_Amounts___rmul__ ct_Amounts___rmul__), sl_Amounts___rmul__⟩)
    (c_Amounts___rmul__ : PySem.W.codeIn K cd_Amounts___rmul__ "Amounts.__rmul__" = true)
    (k_Amounts___rmul__ : PySem.W.keepIn K (.ref f_Amounts___rmul__) = true)
    (a_Amounts___neg__ : PySem.W.findIn K (.ref A_Amounts) "__neg__" = some (some (.ref f_Amounts___neg__)))
    (i_Amounts___neg__ : PySem.W.isFn K (.ref f_Amounts___neg__) = true)
    (l_Amounts___neg__ : K.lookup f_Amounts___neg__ = some ⟨oc_Amounts___neg__, od_Amounts___neg__, .func (PySem.W.fnOf "__neg__" "Amounts.__neg__" (defArgs s_Amounts___neg__) (defBody s_Amounts___neg__) (defScope s_Amounts___neg__) .none kV_Amounts___neg__ dc_Amounts___neg__ pm_Amounts___neg__ an_Amounts___neg__ cd_Amounts___neg__ ct_Amounts___neg__), sl_Amounts___neg__⟩)
    (c_Amounts___neg__ : PySem.W.codeIn K cd_Amounts___neg__ "Amounts.__neg__" = true)
    (k_Amounts___neg__ : PySem.W.keepIn K (.ref f_Amounts___neg__) = true)
    (a_Amounts___abs__ : PySem.W.findIn K (.ref A_Amounts) "__abs__" = some (some (.ref f_Amounts___abs__)))
    (i_Amounts___abs__ : PySem.W.isFn K (.ref f_Amounts___abs__) = true)
    (l_Amounts___abs__ : K.lookup f_Amounts___abs__ = some ⟨oc_Amounts___abs__, od_Amounts___abs__, .func (PySem.W.fnOf "__abs__" "Amounts.__abs__" (defArgs s_Amounts___abs__) (defBody s_Amounts___abs__) (defScope s_Amounts___abs__) .none kV_Amounts___abs__ dc_Amounts___abs__ pm_Amounts___abs__ an_Amounts___abs__ cd_Amounts___abs__ ct_Amounts___abs__), sl_Amounts___abs__⟩)
    (c_Amounts___abs__ : PySem.W.codeIn K cd_Amounts___abs__ "Amounts.__abs__" = true)
    (k_Amounts___abs__ : PySem.W.keepIn K (.ref f_Amounts___abs__) = true)
    (rd_Amounts_of : PySem.W.readsIn K A_Amounts (.type "type") = true)
    (ga_Amounts_of : PySem.W.specialIn K (.ref A_Amounts) "__getattribute__" = some (some (.builtin "type.__getattribute__")))
    (a_Amounts_of : PySem.W.findCls K (.ref A_Amounts) (.type "type") "of" = some (.get (.builtin "staticmethod.__get__") (.ref p_Amounts_of) .none (.ref A_Amounts)))
    (sr_Amounts_of : PySem.W.recIn K p_Amounts_of "staticmethod" = some (.ref f_Amounts_of :: rest_Amounts_of))
    (l_Amounts_of : K.lookup f_Amounts_of = some ⟨oc_Amounts_of, od_Amounts_of, .func (PySem.W.fnOf "of" "Amounts.of" (defArgs s_Amounts_of) (defBody s_Amounts_of) (defScope s_Amounts_of) .none kV_Amounts_of dc_Amounts_of pm_Amounts_of an_Amounts_of cd_Amounts_of ct_Amounts_of), sl_Amounts_of⟩)
    (c_Amounts_of : PySem.W.codeIn K cd_Amounts_of "Amounts.of" = true)
    (k_Amounts_of : PySem.W.keepIn K (.ref f_Amounts_of) = true)
    (a__law_number : PySem.W.nsIn K mainGlobals "_law_number" = some (some (.ref f__law_number)))
    (l__law_number : K.lookup f__law_number = some ⟨oc__law_number, od__law_number, .func (PySem.W.fnOf "_law_number" "_law_number" (defArgs s__law_number) (defBody s__law_number) (defScope s__law_number) .none kV__law_number dc__law_number pm__law_number an__law_number cd__law_number ct__law_number), sl__law_number⟩)
    (c__law_number : PySem.W.codeIn K cd__law_number "_law_number" = true)
    (k__law_number : PySem.W.keepIn K (.ref f__law_number) = true)
    (a__law_signed : PySem.W.nsIn K mainGlobals "_law_signed" = some (some (.ref f__law_signed)))
    (l__law_signed : K.lookup f__law_signed = some ⟨oc__law_signed, od__law_signed, .func (PySem.W.fnOf "_law_signed" "_law_signed" (defArgs s__law_signed) (defBody s__law_signed) (defScope s__law_signed) .none kV__law_signed dc__law_signed pm__law_signed an__law_signed cd__law_signed ct__law_signed), sl__law_signed⟩)
    (c__law_signed : PySem.W.codeIn K cd__law_signed "_law_signed" = true)
    (k__law_signed : PySem.W.keepIn K (.ref f__law_signed) = true)
    (a__law_whole : PySem.W.nsIn K mainGlobals "_law_whole" = some (some (.ref f__law_whole)))
    (l__law_whole : K.lookup f__law_whole = some ⟨oc__law_whole, od__law_whole, .func (PySem.W.fnOf "_law_whole" "_law_whole" (defArgs s__law_whole) (defBody s__law_whole) (defScope s__law_whole) .none kV__law_whole dc__law_whole pm__law_whole an__law_whole cd__law_whole ct__law_whole), sl__law_whole⟩)
    (c__law_whole : PySem.W.codeIn K cd__law_whole "_law_whole" = true)
    (k__law_whole : PySem.W.keepIn K (.ref f__law_whole) = true)
    (a__law_row : PySem.W.nsIn K mainGlobals "_law_row" = some (some (.ref f__law_row)))
    (l__law_row : K.lookup f__law_row = some ⟨oc__law_row, od__law_row, .func (PySem.W.fnOf "_law_row" "_law_row" (defArgs s__law_row) (defBody s__law_row) (defScope s__law_row) .none kV__law_row dc__law_row pm__law_row an__law_row cd__law_row ct__law_row), sl__law_row⟩)
    (c__law_row : PySem.W.codeIn K cd__law_row "_law_row" = true)
    (k__law_row : PySem.W.keepIn K (.ref f__law_row) = true)
    (a__law_is : PySem.W.nsIn K mainGlobals "_law_is" = some (some (.ref f__law_is)))
    (l__law_is : K.lookup f__law_is = some ⟨oc__law_is, od__law_is, .func (PySem.W.fnOf "_law_is" "_law_is" (defArgs s__law_is) (defBody s__law_is) (defScope s__law_is) .none kV__law_is dc__law_is pm__law_is an__law_is cd__law_is ct__law_is), sl__law_is⟩)
    (c__law_is : PySem.W.codeIn K cd__law_is "_law_is" = true)
    (k__law_is : PySem.W.keepIn K (.ref f__law_is) = true)
    (a__law_part : PySem.W.nsIn K mainGlobals "_law_part" = some (some (.ref f__law_part)))
    (l__law_part : K.lookup f__law_part = some ⟨oc__law_part, od__law_part, .func (PySem.W.fnOf "_law_part" "_law_part" (defArgs s__law_part) (defBody s__law_part) (defScope s__law_part) .none kV__law_part dc__law_part pm__law_part an__law_part cd__law_part ct__law_part), sl__law_part⟩)
    (c__law_part : PySem.W.codeIn K cd__law_part "_law_part" = true)
    (k__law_part : PySem.W.keepIn K (.ref f__law_part) = true)
    (a__law_divided : PySem.W.nsIn K mainGlobals "_law_divided" = some (some (.ref f__law_divided)))
    (l__law_divided : K.lookup f__law_divided = some ⟨oc__law_divided, od__law_divided, .func (PySem.W.fnOf "_law_divided" "_law_divided" (defArgs s__law_divided) (defBody s__law_divided) (defScope s__law_divided) .none kV__law_divided dc__law_divided pm__law_divided an__law_divided cd__law_divided ct__law_divided), sl__law_divided⟩)
    (c__law_divided : PySem.W.codeIn K cd__law_divided "_law_divided" = true)
    (k__law_divided : PySem.W.keepIn K (.ref f__law_divided) = true)
    (a__law_refused : PySem.W.nsIn K mainGlobals "_law_refused" = some (some (.ref f__law_refused)))
    (l__law_refused : K.lookup f__law_refused = some ⟨oc__law_refused, od__law_refused, .func (PySem.W.fnOf "_law_refused" "_law_refused" (defArgs s__law_refused) (defBody s__law_refused) (defScope s__law_refused) .none kV__law_refused dc__law_refused pm__law_refused an__law_refused cd__law_refused ct__law_refused), sl__law_refused⟩)
    (c__law_refused : PySem.W.codeIn K cd__law_refused "_law_refused" = true)
    (k__law_refused : PySem.W.keepIn K (.ref f__law_refused) = true)
    (a__law_sums : PySem.W.nsIn K mainGlobals "_law_sums" = some (some (.ref f__law_sums)))
    (l__law_sums : K.lookup f__law_sums = some ⟨oc__law_sums, od__law_sums, .func (PySem.W.fnOf "_law_sums" "_law_sums" (defArgs s__law_sums) (defBody s__law_sums) (defScope s__law_sums) .none kV__law_sums dc__law_sums pm__law_sums an__law_sums cd__law_sums ct__law_sums), sl__law_sums⟩)
    (c__law_sums : PySem.W.codeIn K cd__law_sums "_law_sums" = true)
    (k__law_sums : PySem.W.keepIn K (.ref f__law_sums) = true)
    (a__law_names : PySem.W.nsIn K mainGlobals "_law_names" = some (some (.ref f__law_names)))
    (l__law_names : K.lookup f__law_names = some ⟨oc__law_names, od__law_names, .func (PySem.W.fnOf "_law_names" "_law_names" (defArgs s__law_names) (defBody s__law_names) (defScope s__law_names) .none kV__law_names dc__law_names pm__law_names an__law_names cd__law_names ct__law_names), sl__law_names⟩)
    (c__law_names : PySem.W.codeIn K cd__law_names "_law_names" = true)
    (k__law_names : PySem.W.keepIn K (.ref f__law_names) = true)
    (a__law_made : PySem.W.nsIn K mainGlobals "_law_made" = some (some (.ref f__law_made)))
    (l__law_made : K.lookup f__law_made = some ⟨oc__law_made, od__law_made, .func (PySem.W.fnOf "_law_made" "_law_made" (defArgs s__law_made) (defBody s__law_made) (defScope s__law_made) .none kV__law_made dc__law_made pm__law_made an__law_made cd__law_made ct__law_made), sl__law_made⟩)
    (c__law_made : PySem.W.codeIn K cd__law_made "_law_made" = true)
    (k__law_made : PySem.W.keepIn K (.ref f__law_made) = true)
    (a__law_asked : PySem.W.nsIn K mainGlobals "_law_asked" = some (some (.ref f__law_asked)))
    (l__law_asked : K.lookup f__law_asked = some ⟨oc__law_asked, od__law_asked, .func (PySem.W.fnOf "_law_asked" "_law_asked" (defArgs s__law_asked) (defBody s__law_asked) (defScope s__law_asked) .none kV__law_asked dc__law_asked pm__law_asked an__law_asked cd__law_asked ct__law_asked), sl__law_asked⟩)
    (c__law_asked : PySem.W.codeIn K cd__law_asked "_law_asked" = true)
    (k__law_asked : PySem.W.keepIn K (.ref f__law_asked) = true)
    (a_law : PySem.W.nsIn K mainGlobals "law" = some (some (.ref f_law)))
    (l_law : K.lookup f_law = some ⟨oc_law, od_law, .func (PySem.W.fnOf "law" "law" (defArgs s_law) (defBody s_law) (defScope s_law) .none kV_law dc_law pm_law an_law cd_law ct_law), sl_law⟩)
    (c_law : PySem.W.codeIn K cd_law "law" = true)
    (k_law : PySem.W.keepIn K (.ref f_law) = true)
    : ∃ fd : FuncData, (∀ (s : Shared) (v : Value), BindsTo s fd ⟨[v], []⟩ [("_law_script", v)]) ∧ ∀ base : Heap, K.In base → base.Ns mainGlobals mg → FnOk l.prog w K mg base (L2N.CX l.prog w) 6 fa fd ["_law_script"] (spLaw K) := by
  have e := hfa.symm.trans (PySem.W.mg_of X G a_law)
  cases e
  let c : Ad := ⟨K, A_GangError, A_BadShare, A_BadAmounts, A_Unknown, A_Amounts, A_fE⟩
  have e_BadAmounts : PySem.GErr.ErrTxt K mg "BadAmounts" A_BadAmounts A_fE := { gC := PySem.W.mg_of X G a_BadAmounts, cls := ⟨nm_BadAmounts, q_BadAmounts, N_BadAmounts, bs_BadAmounts, _, sn_BadAmounts, sub_BadAmounts, ab_BadAmounts, col_BadAmounts, dd_BadAmounts, m0_BadAmounts, m1_BadAmounts, m2_BadAmounts, m3_BadAmounts, m5_BadAmounts, xL_BadAmounts, rfl⟩, sa := esa_BadAmounts, ga := ega_BadAmounts, gg := egg_BadAmounts, noN := ens_BadAmounts, iC := ei_BadAmounts, tC := t_E, kC := ek_BadAmounts, exC := ebe_BadAmounts, tyC := ety_BadAmounts, hdC := ehd_BadAmounts, haC := eha_BadAmounts, hnC := hn0, htC := ht0, hmC := ehm_BadAmounts, fn := ⟨_, _, _, _, _, _, _, _, _, _, _, _, _, _, l_E, c_E⟩ }
  have e_Unknown : PySem.GErr.ErrTxt K mg "Unknown" A_Unknown A_fE := { gC := PySem.W.mg_of X G a_Unknown, cls := ⟨nm_Unknown, q_Unknown, N_Unknown, bs_Unknown, _, sn_Unknown, sub_Unknown, ab_Unknown, col_Unknown, dd_Unknown, m0_Unknown, m1_Unknown, m2_Unknown, m3_Unknown, m5_Unknown, xL_Unknown, rfl⟩, sa := esa_Unknown, ga := ega_Unknown, gg := egg_Unknown, noN := ens_Unknown, iC := ei_Unknown, tC := t_E, kC := ek_Unknown, exC := ebe_Unknown, tyC := ety_Unknown, hdC := ehd_Unknown, haC := eha_Unknown, hnC := hn0, htC := ht0, hmC := ehm_Unknown, fn := ⟨_, _, _, _, _, _, _, _, _, _, _, _, _, _, l_E, c_E⟩ }
  have o_Amounts : OwnC K mg "Amounts" A_Amounts := ⟨PySem.W.mg_of X G a_Amounts, ⟨pg_Amounts, hd_Amounts, po_Amounts, sa_Amounts⟩, sf_Amounts, ha_Amounts, hn0, ht0, hm_Amounts, kit_self⟩
  have T : Txt K mg c := { kk := rfl, b_ValueError := PySem.W.mg_none_of X G z_ValueError, b_len := PySem.W.mg_none_of X G z_len, b_int := PySem.W.mg_none_of X G z_int, b_abs := PySem.W.mg_none_of X G z_abs, b_isinstance := PySem.W.mg_none_of X G z_isinstance, b_bool := PySem.W.mg_none_of X G z_bool, b_range := PySem.W.mg_none_of X G z_range, b_list := PySem.W.mg_none_of X G z_list, b_zip := PySem.W.mg_none_of X G z_zip, b_min := PySem.W.mg_none_of X G z_min, b_tuple := PySem.W.mg_none_of X G z_tuple, b_sum := PySem.W.mg_none_of X G z_sum, g_GangError := PySem.W.mg_of X G a_GangError, g_BadShare := PySem.W.mg_of X G a_BadShare, g_BadAmounts := PySem.W.mg_of X G a_BadAmounts, g_Unknown := PySem.W.mg_of X G a_Unknown, g_Amounts := PySem.W.mg_of X G a_Amounts, o_Amounts := o_Amounts, sf_Amounts := sf_Amounts, na_Amounts_numbers := na_Amounts_numbers, ni_Amounts := not_first ei1_Amounts, nt_Amounts := not_first ei2_Amounts, si_Amounts := ei3_Amounts, ri_Amounts___mul__ := right_mk (by decide +kernel) (by decide +kernel) r1_Amounts_mul r2_Amounts_mul r3_Amounts_mul (.inr ⟨_, rfl⟩) r4_Amounts_mul, e_BadAmounts := e_BadAmounts, e_Unknown := e_Unknown, x_BadAmounts_GangError := PySem.W.exm_ref cb_GangError ch_GangError ct_GangError cs_BadAmounts_GangError, x_Unknown_GangError := PySem.W.exm_ref cb_GangError ch_GangError ct_GangError cs_Unknown_GangError, k_BadAmounts_BadAmounts := k_BadAmounts_BadAmounts, k_BadAmounts_ValueError := k_BadAmounts_ValueError, k_BadAmounts_BadShare := k_BadAmounts_BadShare, k_BadAmounts_Unknown := k_BadAmounts_Unknown, k_Unknown_Unknown := k_Unknown_Unknown, k_Unknown_ValueError := k_Unknown_ValueError, k_Unknown_BadAmounts := k_Unknown_BadAmounts }
  have F_law_draw := fun_mk (st := s__law_draw) l__law_draw c__law_draw k__law_draw
  have b_law_draw := F_law_draw.binds (ps := ["_law_pool_here", "_law_many"]) fun _ _ _ _ _ _ us hl => match us, hl with | [_, _], _ => rfl
  have F_law_pool := fun_mk (st := s__law_pool) l__law_pool c__law_pool k__law_pool
  have b_law_pool := F_law_pool.binds (ps := ["_law_script"]) fun _ _ _ _ _ _ us hl => match us, hl with | [_], _ => rfl
  have FAmounts___init__ := fun_mk (st := s_Amounts___init__) l_Amounts___init__ c_Amounts___init__ k_Amounts___init__
  have Fpaired := fun_mk (st := s_paired) l_paired c_paired k_paired
  have bpaired := Fpaired.binds (ps := ["left", "right"]) fun _ _ _ _ _ _ us hl => match us, hl with | [_, _], _ => rfl
  have FAmounts___sub__ := fun_mk (st := s_Amounts___sub__) l_Amounts___sub__ c_Amounts___sub__ k_Amounts___sub__
  have bAmounts___sub__ := FAmounts___sub__.binds (ps := ["self", "other"]) fun _ _ _ _ _ _ us hl => match us, hl with | [_, _], _ => rfl
  have FAmounts___add__ := fun_mk (st := s_Amounts___add__) l_Amounts___add__ c_Amounts___add__ k_Amounts___add__
  have bAmounts___add__ := FAmounts___add__.binds (ps := ["self", "other"]) fun _ _ _ _ _ _ us hl => match us, hl with | [_, _], _ => rfl
  have FAmounts___mul__ := fun_mk (st := s_Amounts___mul__) l_Amounts___mul__ c_Amounts___mul__ k_Amounts___mul__
  have bAmounts___mul__ := FAmounts___mul__.binds (ps := ["self", "other"]) fun _ _ _ _ _ _ us hl => match us, hl with | [_, _], _ => rfl
  have FAmounts___floordiv__ := fun_mk (st := s_Amounts___floordiv__) l_Amounts___floordiv__ c_Amounts___floordiv__ k_Amounts___floordiv__
  have bAmounts___floordiv__ := FAmounts___floordiv__.binds (ps := ["self", "other"]) fun _ _ _ _ _ _ us hl => match us, hl with | [_, _], _ => rfl
  have FAmounts___mod__ := fun_mk (st := s_Amounts___mod__) l_Amounts___mod__ c_Amounts___mod__ k_Amounts___mod__
  have bAmounts___mod__ := FAmounts___mod__.binds (ps := ["self", "other"]) fun _ _ _ _ _ _ us hl => match us, hl with | [_, _], _ => rfl
  have FAmounts___rmul__ := fun_mk (st := s_Amounts___rmul__) l_Amounts___rmul__ c_Amounts___rmul__ k_Amounts___rmul__
  have bAmounts___rmul__ := FAmounts___rmul__.binds (ps := ["self", "other"]) fun _ _ _ _ _ _ us hl => match us, hl with | [_, _], _ => rfl
  have FAmounts___neg__ := fun_mk (st := s_Amounts___neg__) l_Amounts___neg__ c_Amounts___neg__ k_Amounts___neg__
  have bAmounts___neg__ := FAmounts___neg__.binds (ps := ["self"]) fun _ _ _ _ _ _ us hl => match us, hl with | [_], _ => rfl
  have FAmounts___abs__ := fun_mk (st := s_Amounts___abs__) l_Amounts___abs__ c_Amounts___abs__ k_Amounts___abs__
  have bAmounts___abs__ := FAmounts___abs__.binds (ps := ["self"]) fun _ _ _ _ _ _ us hl => match us, hl with | [_], _ => rfl
  have FAmounts_of := fun_mk (st := s_Amounts_of) l_Amounts_of c_Amounts_of k_Amounts_of
  have F_law_number := fun_mk (st := s__law_number) l__law_number c__law_number k__law_number
  have b_law_number := F_law_number.binds (ps := ["_law_pool_here", "_law_groups"]) fun _ _ _ _ _ _ us hl => match us, hl with | [_, _], _ => rfl
  have F_law_signed := fun_mk (st := s__law_signed) l__law_signed c__law_signed k__law_signed
  have b_law_signed := F_law_signed.binds (ps := ["_law_pool_here", "_law_groups"]) fun _ _ _ _ _ _ us hl => match us, hl with | [_, _], _ => rfl
  have F_law_whole := fun_mk (st := s__law_whole) l__law_whole c__law_whole k__law_whole
  have b_law_whole := F_law_whole.binds (ps := ["_law_value"]) fun _ _ _ _ _ _ us hl => match us, hl with | [_], _ => rfl
  have F_law_row := fun_mk (st := s__law_row) l__law_row c__law_row k__law_row
  have b_law_row := F_law_row.binds (ps := ["_law_numbers"]) fun _ _ _ _ _ _ us hl => match us, hl with | [_], _ => rfl
  have F_law_is := fun_mk (st := s__law_is) l__law_is c__law_is k__law_is
  have b_law_is := F_law_is.binds (ps := ["_law_row_here", "_law_numbers"]) fun _ _ _ _ _ _ us hl => match us, hl with | [_, _], _ => rfl
  have F_law_part := fun_mk (st := s__law_part) l__law_part c__law_part k__law_part
  have b_law_part := F_law_part.binds (ps := ["_law_pool_here", "_law_number_here"]) fun _ _ _ _ _ _ us hl => match us, hl with | [_, _], _ => rfl
  have F_law_divided := fun_mk (st := s__law_divided) l__law_divided c__law_divided k__law_divided
  have b_law_divided := F_law_divided.binds (ps := ["_law_one", "_law_a", "_law_other", "_law_b"]) fun _ _ _ _ _ _ us hl => match us, hl with | [_, _, _, _], _ => rfl
  have F_law_refused := fun_mk (st := s__law_refused) l__law_refused c__law_refused k__law_refused
  have b_law_refused := F_law_refused.binds (ps := ["_law_one", "_law_other", "_law_b", "_law_way"]) fun _ _ _ _ _ _ us hl => match us, hl with | [_, _, _, _], _ => rfl
  have F_law_sums := fun_mk (st := s__law_sums) l__law_sums c__law_sums k__law_sums
  have b_law_sums := F_law_sums.binds (ps := ["_law_one", "_law_a", "_law_other", "_law_b", "_law_times"]) fun _ _ _ _ _ _ us hl => match us, hl with | [_, _, _, _, _], _ => rfl
  have F_law_names := fun_mk (st := s__law_names) l__law_names c__law_names k__law_names
  have b_law_names := F_law_names.binds (ps := ["_law_pool_here"]) fun _ _ _ _ _ _ us hl => match us, hl with | [_], _ => rfl
  have F_law_made := fun_mk (st := s__law_made) l__law_made c__law_made k__law_made
  have b_law_made := F_law_made.binds (ps := ["_law_kinds", "_law_given", "_law_way"]) fun _ _ _ _ _ _ us hl => match us, hl with | [_, _, _], _ => rfl
  have F_law_asked := fun_mk (st := s__law_asked) l__law_asked c__law_asked k__law_asked
  have b_law_asked := F_law_asked.binds (ps := ["_law_kinds", "_law_given", "_law_way"]) fun _ _ _ _ _ _ us hl => match us, hl with | [_, _, _], _ => rfl
  have Flaw := fun_mk (st := s_law) l_law c_law k_law
  refine ⟨PySem.W.fnOf "law" "law" (defArgs s_law) (defBody s_law) (defScope s_law) .none kV_law dc_law pm_law an_law cd_law ct_law, fun s v => .of_eq rfl, fun base _ _ => ?_⟩
  have G_law_draw : FnOk l.prog w K mg base (L2N.CX l.prog w) 1 f__law_draw _ ["_law_pool_here", "_law_many"] (sp__law_draw c) := ok__law_draw F_law_draw T 
  have Z__law_draw : Fn l.prog w K mg base "_law_draw" 1 ["_law_pool_here", "_law_many"] [] (sp__law_draw c) := ⟨_, _, _, G_law_draw, PySem.W.mg_of X G a__law_draw, k__law_draw, b_law_draw, .nil⟩
  have G_law_pool : FnOk l.prog w K mg base (L2N.CX l.prog w) 1 f__law_pool _ ["_law_script"] (sp__law_pool c) := ok__law_pool F_law_pool T 
  have Z__law_pool : Fn l.prog w K mg base "_law_pool" 1 ["_law_script"] [] (sp__law_pool c) := ⟨_, _, _, G_law_pool, PySem.W.mg_of X G a__law_pool, k__law_pool, b_law_pool, .nil⟩
  have GAmounts___init__ : FnR l.prog w K mg base (L2N.CX l.prog w) 1 f_Amounts___init__ (star1 (sp_Amounts___init__ c)) := ok_Amounts___init__ FAmounts___init__ T 
  have ZMR_Amounts : McR l.prog w K mg base "Amounts" c.Amounts 1 (sp_Amounts___init__ c) := ⟨_, GAmounts___init__, ⟨mk_Amounts, a_Amounts___init__, i_Amounts___init__, kc_Amounts⟩, PySem.W.mg_of X G a_Amounts⟩
  have Gpaired : FnOk l.prog w K mg base (L2N.CX l.prog w) 1 f_paired _ ["left", "right"] (sp_paired c) := ok_paired Fpaired T 
  have Z_paired : Fn l.prog w K mg base "paired" 1 ["left", "right"] [] (sp_paired c) := ⟨_, _, _, Gpaired, PySem.W.mg_of X G a_paired, k_paired, bpaired, .nil⟩
  have GAmounts___abs__ : FnOk l.prog w K mg base (L2N.CX l.prog w) 1 f_Amounts___abs__ _ ["self"] (sp_Amounts___abs__ c) := ok_Amounts___abs__ FAmounts___abs__ T 
  have ZS_Amounts___abs__ : Sm l.prog w K mg base c.Amounts "__abs__" 1 ["self"] (sp_Amounts___abs__ c) := ⟨_, _, GAmounts___abs__, a_Amounts___abs__, i_Amounts___abs__, bAmounts___abs__⟩
  have G_law_whole : FnOk l.prog w K mg base (L2N.CX l.prog w) 1 f__law_whole _ ["_law_value"] (sp__law_whole c) := ok__law_whole F_law_whole T 
  have Z__law_whole : Fn l.prog w K mg base "_law_whole" 1 ["_law_value"] [] (sp__law_whole c) := ⟨_, _, _, G_law_whole, PySem.W.mg_of X G a__law_whole, k__law_whole, b_law_whole, .nil⟩
  have GAmounts___floordiv__ : FnOk l.prog w K mg base (L2N.CX l.prog w) 2 f_Amounts___floordiv__ _ ["self", "other"] (sp_Amounts___floordiv__ c) := ok_Amounts___floordiv__ FAmounts___floordiv__ T Z_paired
  have ZS_Amounts___floordiv__ : Sm l.prog w K mg base c.Amounts "__floordiv__" 2 ["self", "other"] (sp_Amounts___floordiv__ c) := ⟨_, _, GAmounts___floordiv__, a_Amounts___floordiv__, i_Amounts___floordiv__, bAmounts___floordiv__⟩
  have G_law_number : FnOk l.prog w K mg base (L2N.CX l.prog w) 2 f__law_number _ ["_law_pool_here", "_law_groups"] (sp__law_number c) := ok__law_number F_law_number T Z__law_draw
  have Z__law_number : Fn l.prog w K mg base "_law_number" 2 ["_law_pool_here", "_law_groups"] [] (sp__law_number c) := ⟨_, _, _, G_law_number, PySem.W.mg_of X G a__law_number, k__law_number, b_law_number, .nil⟩
  have G_law_is : FnOk l.prog w K mg base (L2N.CX l.prog w) 2 f__law_is _ ["_law_row_here", "_law_numbers"] (sp__law_is c) := ok__law_is F_law_is T Z__law_whole
  have Z__law_is : Fn l.prog w K mg base "_law_is" 2 ["_law_row_here", "_law_numbers"] [] (sp__law_is c) := ⟨_, _, _, G_law_is, PySem.W.mg_of X G a__law_is, k__law_is, b_law_is, .nil⟩
  have G_law_names : FnOk l.prog w K mg base (L2N.CX l.prog w) 2 f__law_names _ ["_law_pool_here"] (sp__law_names c) := ok__law_names F_law_names T Z__law_draw
  have Z__law_names : Fn l.prog w K mg base "_law_names" 2 ["_law_pool_here"] [] (sp__law_names c) := ⟨_, _, _, G_law_names, PySem.W.mg_of X G a__law_names, k__law_names, b_law_names, .nil⟩
  have GAmounts___sub__ : FnOk l.prog w K mg base (L2N.CX l.prog w) 3 f_Amounts___sub__ _ ["self", "other"] (sp_Amounts___sub__ c) := ok_Amounts___sub__ FAmounts___sub__ T Z_paired ZMR_Amounts
  have ZS_Amounts___sub__ : Sm l.prog w K mg base c.Amounts "__sub__" 3 ["self", "other"] (sp_Amounts___sub__ c) := ⟨_, _, GAmounts___sub__, a_Amounts___sub__, i_Amounts___sub__, bAmounts___sub__⟩
  have GAmounts___add__ : FnOk l.prog w K mg base (L2N.CX l.prog w) 3 f_Amounts___add__ _ ["self", "other"] (sp_Amounts___add__ c) := ok_Amounts___add__ FAmounts___add__ T Z_paired ZMR_Amounts
  have ZS_Amounts___add__ : Sm l.prog w K mg base c.Amounts "__add__" 3 ["self", "other"] (sp_Amounts___add__ c) := ⟨_, _, GAmounts___add__, a_Amounts___add__, i_Amounts___add__, bAmounts___add__⟩
  have GAmounts___mul__ : FnOk l.prog w K mg base (L2N.CX l.prog w) 3 f_Amounts___mul__ _ ["self", "other"] (sp_Amounts___mul__ c) := ok_Amounts___mul__ FAmounts___mul__ T ZMR_Amounts
  have ZS_Amounts___mul__ : Sm l.prog w K mg base c.Amounts "__mul__" 3 ["self", "other"] (sp_Amounts___mul__ c) := ⟨_, _, GAmounts___mul__, a_Amounts___mul__, i_Amounts___mul__, bAmounts___mul__⟩
  have GAmounts___neg__ : FnOk l.prog w K mg base (L2N.CX l.prog w) 3 f_Amounts___neg__ _ ["self"] (sp_Amounts___neg__ c) := ok_Amounts___neg__ FAmounts___neg__ T ZMR_Amounts
  have ZS_Amounts___neg__ : Sm l.prog w K mg base c.Amounts "__neg__" 3 ["self"] (sp_Amounts___neg__ c) := ⟨_, _, GAmounts___neg__, a_Amounts___neg__, i_Amounts___neg__, bAmounts___neg__⟩
  have ZK_Amounts_of : Sk l.prog w K mg base c.Amounts "of" 3 1 kss_Amounts_of (sp_Amounts_of c) := ⟨_, _, _, _, ⟨rd_Amounts_of, ga_Amounts_of⟩, a_Amounts_of, sr_Amounts_of, k_Amounts_of, ok_Amounts_of FAmounts_of T ZMR_Amounts⟩
  have G_law_signed : FnOk l.prog w K mg base (L2N.CX l.prog w) 3 f__law_signed _ ["_law_pool_here", "_law_groups"] (sp__law_signed c) := ok__law_signed F_law_signed T Z__law_draw Z__law_number
  have Z__law_signed : Fn l.prog w K mg base "_law_signed" 3 ["_law_pool_here", "_law_groups"] [] (sp__law_signed c) := ⟨_, _, _, G_law_signed, PySem.W.mg_of X G a__law_signed, k__law_signed, b_law_signed, .nil⟩
  have G_law_row : FnOk l.prog w K mg base (L2N.CX l.prog w) 3 f__law_row _ ["_law_numbers"] (sp__law_row c) := ok__law_row F_law_row T ZMR_Amounts
  have Z__law_row : Fn l.prog w K mg base "_law_row" 3 ["_law_numbers"] [] (sp__law_row c) := ⟨_, _, _, G_law_row, PySem.W.mg_of X G a__law_row, k__law_row, b_law_row, .nil⟩
  have G_law_part : FnOk l.prog w K mg base (L2N.CX l.prog w) 3 f__law_part _ ["_law_pool_here", "_law_number_here"] (sp__law_part c) := ok__law_part F_law_part T Z__law_draw Z__law_number
  have Z__law_part : Fn l.prog w K mg base "_law_part" 3 ["_law_pool_here", "_law_number_here"] [] (sp__law_part c) := ⟨_, _, _, G_law_part, PySem.W.mg_of X G a__law_part, k__law_part, b_law_part, .nil⟩
  have GAmounts___mod__ : FnOk l.prog w K mg base (L2N.CX l.prog w) 4 f_Amounts___mod__ _ ["self", "other"] (sp_Amounts___mod__ c) := ok_Amounts___mod__ FAmounts___mod__ T ZS_Amounts___sub__ ZS_Amounts___mul__ ZS_Amounts___floordiv__
  have ZS_Amounts___mod__ : Sm l.prog w K mg base c.Amounts "__mod__" 4 ["self", "other"] (sp_Amounts___mod__ c) := ⟨_, _, GAmounts___mod__, a_Amounts___mod__, i_Amounts___mod__, bAmounts___mod__⟩
  have GAmounts___rmul__ : FnOk l.prog w K mg base (L2N.CX l.prog w) 4 f_Amounts___rmul__ _ ["self", "other"] (sp_Amounts___rmul__ c) := ok_Amounts___rmul__ FAmounts___rmul__ T ZS_Amounts___mul__
  have ZS_Amounts___rmul__ : Sm l.prog w K mg base c.Amounts "__rmul__" 4 ["self", "other"] (sp_Amounts___rmul__ c) := ⟨_, _, GAmounts___rmul__, a_Amounts___rmul__, i_Amounts___rmul__, bAmounts___rmul__⟩
  have G_law_made : FnOk l.prog w K mg base (L2N.CX l.prog w) 4 f__law_made _ ["_law_kinds", "_law_given", "_law_way"] (sp__law_made c) := ok__law_made F_law_made T ZK_Amounts_of
  have Z__law_made : Fn l.prog w K mg base "_law_made" 4 ["_law_kinds", "_law_given", "_law_way"] [] (sp__law_made c) := ⟨_, _, _, G_law_made, PySem.W.mg_of X G a__law_made, k__law_made, b_law_made, .nil⟩
  have G_law_divided : FnOk l.prog w K mg base (L2N.CX l.prog w) 5 f__law_divided _ ["_law_one", "_law_a", "_law_other", "_law_b"] (sp__law_divided c) := ok__law_divided F_law_divided T Z__law_is Z__law_whole ZS_Amounts___mod__ ZS_Amounts___floordiv__
  have Z__law_divided : Fn l.prog w K mg base "_law_divided" 5 ["_law_one", "_law_a", "_law_other", "_law_b"] [] (sp__law_divided c) := ⟨_, _, _, G_law_divided, PySem.W.mg_of X G a__law_divided, k__law_divided, b_law_divided, .nil⟩
  have G_law_refused : FnOk l.prog w K mg base (L2N.CX l.prog w) 5 f__law_refused _ ["_law_one", "_law_other", "_law_b", "_law_way"] (sp__law_refused c) := ok__law_refused F_law_refused T ZS_Amounts___floordiv__ ZS_Amounts___mod__
  have Z__law_refused : Fn l.prog w K mg base "_law_refused" 5 ["_law_one", "_law_other", "_law_b", "_law_way"] [] (sp__law_refused c) := ⟨_, _, _, G_law_refused, PySem.W.mg_of X G a__law_refused, k__law_refused, b_law_refused, .nil⟩
  have G_law_sums : FnOk l.prog w K mg base (L2N.CX l.prog w) 5 f__law_sums _ ["_law_one", "_law_a", "_law_other", "_law_b", "_law_times"] (sp__law_sums c) := ok__law_sums F_law_sums T Z__law_is Z__law_whole ZS_Amounts___sub__ ZS_Amounts___add__ ZS_Amounts___mul__ ZS_Amounts___rmul__ ZS_Amounts___neg__ ZS_Amounts___abs__
  have Z__law_sums : Fn l.prog w K mg base "_law_sums" 5 ["_law_one", "_law_a", "_law_other", "_law_b", "_law_times"] [] (sp__law_sums c) := ⟨_, _, _, G_law_sums, PySem.W.mg_of X G a__law_sums, k__law_sums, b_law_sums, .nil⟩
  have G_law_asked : FnOk l.prog w K mg base (L2N.CX l.prog w) 5 f__law_asked _ ["_law_kinds", "_law_given", "_law_way"] (sp__law_asked c) := ok__law_asked F_law_asked T Z__law_is Z__law_made
  have Z__law_asked : Fn l.prog w K mg base "_law_asked" 5 ["_law_kinds", "_law_given", "_law_way"] [] (sp__law_asked c) := ⟨_, _, _, G_law_asked, PySem.W.mg_of X G a__law_asked, k__law_asked, b_law_asked, .nil⟩
  exact ok_law Flaw T Z__law_is Z__law_asked Z__law_sums Z__law_draw Z__law_refused Z__law_divided Z__law_row Z__law_signed Z__law_names Z__law_part Z__law_number Z__law_pool
theorem walk {l : PySem.W.OpenLaw} {q : Program} {loose : List Str} {XP : (Str → Option Value) → Heap → Prop} {YP : World → Heap → Prop} {d : DefRec} {K : Params → PySem.W.Frag} (hn : l.most = some 63) (hdf : d.params.defaults = [])
    (hY : ∀ (w : World) (h : Heap), YP w h → (K w.params).In h)
    (F : ∀ (w : World) (mg : Str → Option Value) (fa : Addr) (h : Heap), (K w.params).In h → h.Ns mainGlobals mg → mg d.name = some (.ref fa) →
      ∃ fd : FuncData, (∀ (s : Shared) (u : Value), BindsTo s fd ⟨[u], []⟩ [("_law_script", u)]) ∧ ∀ base : Heap, (K w.params).In base → base.Ns mainGlobals mg → FnOk l.prog w (K w.params) mg base (L2N.CX l.prog w) 6 fa fd ["_law_script"] (spLaw (K w.params))) :
    PySem.W.WalkO q loose XP YP l.row.toRowW d [] (fun f vs => PySem.call f vs) :=
  L2.walk_ofB (n := 63) (k := 6) (x := "_law_script") (CX := fun w => L2N.CX l.prog w) (sp := fun w => spLaw (K w.params)) hn (by decide) hdf ⟨rfl, by decide, by decide⟩ hY F (fun _ _ a ns hl hb _ hS => ⟨rfl, a, ns, rfl, hS, hl, hb, fun _ => rfl⟩)
    fun _ _ _ _ _ h => by
      obtain ⟨_, _, _, _, _, _, _, _, _, _, _, _, z⟩ := h
      exact z.elim
end K05
open PySem PySem.W PyProof.Rows in
set_option maxRecDepth 100000 in
set_option maxHeartbeats 0 in
theorem PySem.Challenge.cw_gangbooks_k05_amounts_times_holds : PySem.Challenge.rw_gangbooks_k05_amounts_times.Holds := by
  w_on; o_law; k_head; (case hw => w_witness2)
  k_fill
  refine K05.walk (l := PySem.Challenge.rw_gangbooks_k05_amounts_times) rfl rfl (fun w h Y => PySem.W.kIn_of Y) ?F
  case F =>
    intro w mg fa h KX G hmg
    refine' K05.all_mk KX G hmg ?z_ValueError ?z_len ?z_int ?z_abs ?z_isinstance ?z_bool ?z_range ?z_list ?z_zip ?z_min ?z_tuple ?z_sum ?a_GangError ?a_BadShare ?a_BadAmounts ?a_Unknown ?a_Amounts ?hn0 ?ht0 ?pg_Amounts ?hd_Amounts ?po_Amounts ?sa_Amounts ?mk_Amounts ?kc_Amounts ?sf_Amounts ?ha_Amounts ?hm_Amounts ?na_Amounts_numbers ?ei1_Amounts ?ei2_Amounts ?ei3_Amounts ?r1_Amounts_mul ?r2_Amounts_mul ?r3_Amounts_mul ?r4_Amounts_mul ?ei_BadAmounts ?l_E ?c_E ?t_E ?xL_BadAmounts ?esa_BadAmounts ?ega_BadAmounts ?egg_BadAmounts ?ens_BadAmounts ?ek_BadAmounts ?ebe_BadAmounts ?ety_BadAmounts ?ehd_BadAmounts ?eha_BadAmounts ?ehm_BadAmounts ?xL_Unknown ?esa_Unknown ?ega_Unknown ?egg_Unknown ?ens_Unknown ?ei_Unknown ?ek_Unknown ?ebe_Unknown ?ety_Unknown ?ehd_Unknown ?eha_Unknown ?ehm_Unknown ?cb_GangError ?ch_GangError ?ct_GangError ?cs_BadAmounts_GangError ?cs_Unknown_GangError ?k_BadAmounts_BadAmounts ?k_BadAmounts_ValueError ?k_BadAmounts_BadShare ?k_BadAmounts_Unknown ?k_Unknown_Unknown ?k_Unknown_ValueError ?k_Unknown_BadAmounts ?a__law_draw ?l__law_draw ?c__law_draw ?k__law_draw ?a__law_pool ?l__law_pool ?c__law_pool ?k__law_pool ?a_Amounts___init__ ?i_Amounts___init__ ?l_Amounts___init__ ?c_Amounts___init__ ?k_Amounts___init__ ?a_paired ?l_paired ?c_paired ?k_paired ?a_Amounts___sub__ ?i_Amounts___sub__ ?l_Amounts___sub__ ?c_Amounts___sub__ ?k_Amounts___sub__ ?a_Amounts___add__ ?i_Amounts___add__ ?l_Amounts___add__ ?c_Amounts___add__ ?k_Amounts___add__ ?a_Amounts___mul__ ?i_Amounts___mul__ ?l_Amounts___mul__ ?c_Amounts___mul__ ?k_Amounts___mul__ ?a_Amounts___floordiv__ ?i_Amounts___floordiv__ ?l_Amounts___floordiv__ ?c_Amounts___floordiv__ ?k_Amounts___floordiv__ ?a_Amounts___mod__ ?i_Amounts___mod__ ?l_Amounts___mod__ ?c_Amounts___mod__ ?k_Amounts___mod__ ?a_Amounts___rmul__ ?i_Amounts___rmul__ ?l_Amounts___rmul__ ?c_Amounts___rmul__ ?k_Amounts___rmul__ ?a_Amounts___neg__ ?i_Amounts___neg__ ?l_Amounts___neg__ ?c_Amounts___neg__ ?k_Amounts___neg__ ?a_Amounts___abs__ ?i_Amounts___abs__ ?l_Amounts___abs__ ?c_Amounts___abs__ ?k_Amounts___abs__ ?rd_Amounts_of ?ga_Amounts_of ?a_Amounts_of ?sr_Amounts_of ?l_Amounts_of ?c_Amounts_of ?k_Amounts_of ?a__law_number ?l__law_number ?c__law_number ?k__law_number ?a__law_signed ?l__law_signed ?c__law_signed ?k__law_signed ?a__law_whole ?l__law_whole ?c__law_whole ?k__law_whole ?a__law_row ?l__law_row ?c__law_row ?k__law_row ?a__law_is ?l__law_is ?c__law_is ?k__law_is ?a__law_part ?l__law_part ?c__law_part ?k__law_part ?a__law_divided ?l__law_divided ?c__law_divided ?k__law_divided ?a__law_refused ?l__law_refused ?c__law_refused ?k__law_refused ?a__law_sums ?l__law_sums ?c__law_sums ?k__law_sums ?a__law_names ?l__law_names ?c__law_names ?k__law_names ?a__law_made ?l__law_made ?c__law_made ?k__law_made ?a__law_asked ?l__law_asked ?c__law_asked ?k__law_asked ?a_law ?l_law ?c_law ?k_law
    (case z_ValueError => k_is)
    (case z_len => k_is)
    (case z_int => k_is)
    (case z_abs => k_is)
    (case z_isinstance => k_is)
    (case z_bool => k_is)
    (case z_range => k_is)
    (case z_list => k_is)
    (case z_zip => k_is)
    (case z_min => k_is)
    (case z_tuple => k_is)
    (case z_sum => k_is)
    (case a_GangError => k_is)
    (case a_BadShare => k_is)
    (case a_BadAmounts => k_is)
    (case a_Unknown => k_is)
    (case a_Amounts => k_is)
    (case hn0 => k_is)
    (case ht0 => k_is)
    (case pg_Amounts => k_is)
    (case hd_Amounts => k_is)
    (case po_Amounts => k_is)
    (case sa_Amounts => k_is)
    (case mk_Amounts => k_is)
    (case kc_Amounts => k_is)
    (case sf_Amounts => k_is)
    (case ha_Amounts => k_is)
    (case hm_Amounts => k_is)
    (case na_Amounts_numbers => k_is)
    (case ei1_Amounts => k_is)
    (case ei2_Amounts => k_is)
    (case ei3_Amounts => k_is)
    (case r1_Amounts_mul => k_is)
    (case r2_Amounts_mul => k_is)
    (case r3_Amounts_mul => k_is)
    (case r4_Amounts_mul => k_is)
    (case ei_BadAmounts => k_is)
    (case l_E => k_is)
    (case c_E => k_is)
    (case t_E => k_is)
    (case xL_BadAmounts => k_is)
    (case esa_BadAmounts => k_is)
    (case ega_BadAmounts => k_is)
    (case egg_BadAmounts => k_is)
    (case ens_BadAmounts => k_is)
    (case ek_BadAmounts => k_is)
    (case ebe_BadAmounts => k_is)
    (case ety_BadAmounts => k_is)
    (case ehd_BadAmounts => k_is)
    (case eha_BadAmounts => k_is)
    (case ehm_BadAmounts => k_is)
    (case xL_Unknown => k_is)
    (case esa_Unknown => k_is)
    (case ega_Unknown => k_is)
    (case egg_Unknown => k_is)
    (case ens_Unknown => k_is)
    (case ei_Unknown => k_is)
    (case ek_Unknown => k_is)
    (case ebe_Unknown => k_is)
    (case ety_Unknown => k_is)
    (case ehd_Unknown => k_is)
    (case eha_Unknown => k_is)
    (case ehm_Unknown => k_is)
    (case cb_GangError => k_is)
    (case ch_GangError => k_is)
    (case ct_GangError => k_is)
    (case cs_BadAmounts_GangError => first | rfl | k_is)
    (case cs_Unknown_GangError => first | rfl | k_is)
    (case k_BadAmounts_BadAmounts => first | kit_is | k_is)
    (case k_BadAmounts_ValueError => first | kit_is | k_is)
    (case k_BadAmounts_BadShare => first | kit_is | k_is)
    (case k_BadAmounts_Unknown => first | kit_is | k_is)
    (case k_Unknown_Unknown => first | kit_is | k_is)
    (case k_Unknown_ValueError => first | kit_is | k_is)
    (case k_Unknown_BadAmounts => first | kit_is | k_is)
    (case a__law_draw => k_is)
    (case l__law_draw => k_is)
    (case c__law_draw => k_is)
    (case k__law_draw => k_is)
    (case a__law_pool => k_is)
    (case l__law_pool => k_is)
    (case c__law_pool => k_is)
    (case k__law_pool => k_is)
    (case a_Amounts___init__ => k_is)
    (case i_Amounts___init__ => k_is)
    (case l_Amounts___init__ => k_is)
    (case c_Amounts___init__ => k_is)
    (case k_Amounts___init__ => k_is)
    (case a_paired => k_is)
    (case l_paired => k_is)
    (case c_paired => k_is)
    (case k_paired => k_is)
    (case a_Amounts___sub__ => k_is)
    (case i_Amounts___sub__ => k_is)
    (case l_Amounts___sub__ => k_is)
    (case c_Amounts___sub__ => k_is)
    (case k_Amounts___sub__ => k_is)
    (case a_Amounts___add__ => k_is)
    (case i_Amounts___add__ => k_is)
    (case l_Amounts___add__ => k_is)
    (case c_Amounts___add__ => k_is)
    (case k_Amounts___add__ => k_is)
    (case a_Amounts___mul__ => k_is)
    (case i_Amounts___mul__ => k_is)
    (case l_Amounts___mul__ => k_is)
    (case c_Amounts___mul__ => k_is)
    (case k_Amounts___mul__ => k_is)
    (case a_Amounts___floordiv__ => k_is)
    (case i_Amounts___floordiv__ => k_is)
    (case l_Amounts___floordiv__ => k_is)
    (case c_Amounts___floordiv__ => k_is)
    (case k_Amounts___floordiv__ => k_is)
    (case a_Amounts___mod__ => k_is)
    (case i_Amounts___mod__ => k_is)
    (case l_Amounts___mod__ => k_is)
    (case c_Amounts___mod__ => k_is)
    (case k_Amounts___mod__ => k_is)
    (case a_Amounts___rmul__ => k_is)
    (case i_Amounts___rmul__ => k_is)
    (case l_Amounts___rmul__ => k_is)
    (case c_Amounts___rmul__ => k_is)
    (case k_Amounts___rmul__ => k_is)
    (case a_Amounts___neg__ => k_is)
    (case i_Amounts___neg__ => k_is)
    (case l_Amounts___neg__ => k_is)
    (case c_Amounts___neg__ => k_is)
    (case k_Amounts___neg__ => k_is)
    (case a_Amounts___abs__ => k_is)
    (case i_Amounts___abs__ => k_is)
    (case l_Amounts___abs__ => k_is)
    (case c_Amounts___abs__ => k_is)
    (case k_Amounts___abs__ => k_is)
    (case rd_Amounts_of => k_is)
    (case ga_Amounts_of => k_is)
    (case a_Amounts_of => k_is)
    (case sr_Amounts_of => k_is)
    (case l_Amounts_of => k_is)
    (case c_Amounts_of => k_is)
    (case k_Amounts_of => k_is)
    (case a__law_number => k_is)
    (case l__law_number => k_is)
    (case c__law_number => k_is)
    (case k__law_number => k_is)
    (case a__law_signed => k_is)
    (case l__law_signed => k_is)
    (case c__law_signed => k_is)
    (case k__law_signed => k_is)
    (case a__law_whole => k_is)
    (case l__law_whole => k_is)
    (case c__law_whole => k_is)
    (case k__law_whole => k_is)
    (case a__law_row => k_is)
    (case l__law_row => k_is)
    (case c__law_row => k_is)
    (case k__law_row => k_is)
    (case a__law_is => k_is)
    (case l__law_is => k_is)
    (case c__law_is => k_is)
    (case k__law_is => k_is)
    (case a__law_part => k_is)
    (case l__law_part => k_is)
    (case c__law_part => k_is)
    (case k__law_part => k_is)
    (case a__law_divided => k_is)
    (case l__law_divided => k_is)
    (case c__law_divided => k_is)
    (case k__law_divided => k_is)
    (case a__law_refused => k_is)
    (case l__law_refused => k_is)
    (case c__law_refused => k_is)
    (case k__law_refused => k_is)
    (case a__law_sums => k_is)
    (case l__law_sums => k_is)
    (case c__law_sums => k_is)
    (case k__law_sums => k_is)
    (case a__law_names => k_is)
    (case l__law_names => k_is)
    (case c__law_names => k_is)
    (case k__law_names => k_is)
    (case a__law_made => k_is)
    (case l__law_made => k_is)
    (case c__law_made => k_is)
    (case k__law_made => k_is)
    (case a__law_asked => k_is)
    (case l__law_asked => k_is)
    (case c__law_asked => k_is)
    (case k__law_asked => k_is)
    (case a_law => k_is)
    (case l_law => k_is)
    (case c_law => k_is)
    (case k_law => k_is)
