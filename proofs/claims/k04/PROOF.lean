import PyProof.Rows.All
import Wide.All
import OpenK.AllK
import Wide.FinOn
import KE.KOpsOwn
import KE.KExcIs
import HandS.ForMost
import HandS.ForExc
import HandS.IsInst
import HandS.Property
import HandS.CallSlots
import HandS.ExcCtx
import HandS.HotCalls
import HandS.ExcField
import HandS.ExcIs
import HandS.Flow
import HandS.Wide
import HandS.Conv
import HandS.Defaults
import HandS.Star
import HandS.Zip
import HandS.ListItems
import KE.KDictZip
import KE.KOwnIter
import KE.KDictIter
import HandS.Walk
import HandS.TupAny
import KE.RegKIsAll
import HandS.EndBits
import PySem.Challenge.RW_gangbooks_k04_amounts_within
set_option Elab.async false
set_option linter.all false
set_option maxRecDepth 100000
set_option maxHeartbeats 1000000
set_option synthInstance.maxSize 100000
set_option synthInstance.maxHeartbeats 1000000
/-! GA: defs, classes and own operators of the text, as rules of the hand layer; what a callee raises is wished for at the caller's slots. -/
namespace GG
open PySem L2 PyProof.Rows

/-- a def by its body, what it lets out having no context -/
theorem Fun.okN {P : Program} {w : World} {K : PySem.W.Frag} {mg : Str → Option Value} {base : Heap} {x qual : Str} {st : Stmt} {f : Addr} {fd : FuncData} {N ps : List Str} {k : Nat} {sp : Sp} (F : Fun K x qual st f fd) (S : FnScope N ps (defScope st)) (len : ∀ vs H Q E, sp vs H Q E → vs.length = ps.length)
    (hbody : ∀ (cdv : Value) (A : Around) (outer : List Env) (s : Shared) (H : Hp) (vs : List V) (Q : VK) (E : XK), Room k (A.deeper (envOfC qual (defScope st) s.heap.objs.size f cdv)) → sp vs H Q E →
      ∃ t, PSs (cxOf (L2N.CX P w) P w K mg base N qual (defScope st) f cdv A outer s H E) (defBody st) t ∧ t { nx := fun _ H' => Q .non H', rt := Q } (start N vs) H) : FnOk P w K mg base (L2N.CX P w) (k + 1) f fd ps sp := by
  obtain ⟨oc, od, kV, doc, pm, an, cdv, ct, osl, rfl, lk, hcd⟩ := F.ex
  exact fn_of lk hcd S len fun A outer s H vs Q E hr hsp => hbody cdv A outer s H vs Q E hr hsp
/-- .. called within an except suite -/
theorem Fun.okH {P : Program} {w : World} {K : PySem.W.Frag} {mg : Str → Option Value} {base : Heap} {x qual : Str} {st : Stmt} {f : Addr} {fd : FuncData} {N ps : List Str} {k : Nat} {sp : Sp} (F : Fun K x qual st f fd) (S : FnScope N ps (defScope st)) (len : ∀ vs H Q E, sp vs H Q E → vs.length = ps.length)
    (hbody : ∀ (cdv : Value) (A : Around) (outer : List Env) (s : Shared) (H : Hp) (vs : List V) (Q : VK) (E : XK) (p : Addr × Obj), L2H.Hot1 A p → L2H.RoomH k (A.deeper (envOfC qual (defScope st) s.heap.objs.size f cdv)) → sp vs H Q E →
      ∃ t, PSs (L2H.cxH (L2N.CX P w) P w K mg base N qual (defScope st) f cdv A outer s H E p) (defBody st) t ∧ t { nx := fun _ H' => Q .non H', rt := Q } (start N vs) H) : L2H.FnH P w K mg base (L2N.CX P w) (k + 1) f fd ps sp := by
  obtain ⟨oc, od, kV, doc, pm, an, cdv, ct, osl, rfl, lk, hcd⟩ := F.ex
  exact L2H.fn_ofH lk hcd S len fun A outer s H vs Q E p hot hr hsp => hbody cdv A outer s H vs Q E p hot hr hsp

/-! ### bundles: a def of the top, a special method, a method, a class that is made -/
structure Fn (P : Program) (w : World) (K : PySem.W.Frag) (mg : Str → Option Value) (base : Heap) (x : Str) (k : Nat) (ps : List Str) (dvs : List V) (sp : Sp) : Prop where
  ex : ∃ f fd ds, FnOk P w K mg base (L2N.CX P w) k f fd ps sp ∧ mg x = some (.ref f) ∧ PySem.W.keepIn K (.ref f) = true ∧ L2.Binds K fd ps ds ∧ Vals dvs ds
/-- the class at C has the special method name -/
structure Sm (P : Program) (w : World) (K : PySem.W.Frag) (mg : Str → Option Value) (base : Heap) (C : Addr) (name : Str) (k : Nat) (ps : List Str) (sp : Sp) : Prop where
  ex : ∃ f fd, FnOk P w K mg base (L2N.CX P w) k f fd ps sp ∧ PySem.W.findIn K (.ref C) name = some (some (.ref f)) ∧ PySem.W.isFn K (.ref f) = true ∧ L2.Binds K fd ps []
/-- the class at C has the method m -/
structure Mt (P : Program) (w : World) (K : PySem.W.Frag) (mg : Str → Option Value) (base : Heap) (C : Addr) (m : Str) (k : Nat) (ps : List Str) (dvs : List V) (sp : Sp) : Prop where
  ex : ∃ f fd ds, FnOk P w K mg base (L2N.CX P w) k f fd ps sp ∧ Meth K C m f ∧ L2.Binds K fd ps ds ∧ Vals dvs ds
  cls : Cls K C
/-- the class x, at C, is made by its __init__ -/
structure Mc (P : Program) (w : World) (K : PySem.W.Frag) (mg : Str → Option Value) (base : Heap) (x : Str) (C : Addr) (k : Nat) (ps : List Str) (dvs : List V) (sp : Sp) : Prop where
  ex : ∃ f fd ds, FnOk P w K mg base (L2N.CX P w) k f fd ps sp ∧ Mk K C f ∧ mg x = some (.ref C) ∧ L2.Binds K fd ps ds ∧ Vals dvs ds

/-- what a callee lets out is taken, at every slots -/
def Ps (X : Cx) (E : L2.St → XK) : Prop := ∀ σ, PassesAt (L2N.CX X.prog X.w) X σ (E σ)
theorem ps_of {X : Cx} {W : WX} (tk : L2N.Takes X W) : Ps X (WE W) := fun σ => L2N.passAt tk σ
/-- nothing is let out -/
abbrev W0 : WX := fun _ _ _ _ => False
theorem ps0 {X : Cx} : Ps X (WE W0) := fun _ _ _ _ _ _ _ h => by
  obtain ⟨_, _, _, _, _, _, _, _, _, _, _, _, z⟩ := h
  exact z.elim

section
variable {X : Cx} {CX : CXT} {k : Nat} {C f : Addr} {fd : FuncData} {ps : List Str} {sp : Sp} {E : L2.St → XK} {dvs : List V} {ds : List Value} {x m : Str} {p pos apos : Pos} {e o : Expr} {es : List Expr} {ta tb : TE} {t : TA} {a b : Expr}
/-- the callee runs somewhere below the body -/
theorem run_at {A : Around} {pins : List (Addr × Obj)} {σ : L2.St} {H : Hp} {s : Shared} {Q : VK} {E : XK} {us : List Value} {vs : List V} (F : FnOk X.prog X.w X.K X.mg X.base CX k f fd ps sp) (hr : Room k A) (fr : A.frames = X.A.frames) (hb : L2.Binds X.K fd ps ds) (hd : Vals dvs ds)
    (hx : PassesAt CX X σ E) (I : L2.Inv X pins σ H s) (r : Vals vs us) (h : sp (vs ++ dvs) H Q E) : wpAny (model X.prog X.w) A (call (.ref f) us) (EP X pins σ Q) X.xe s := by
  have e0 : Env0 X.prog X.w X.K X.mg X.base A X.stack s H := by
    have e := I.env0
    exact ⟨by rw [fr]; exact e.frames, e.mod, e.bs, e.bsz, e.funs, e.frf, e.hok, e.bare⟩
  have r2 : Vals (vs ++ dvs) (us ++ ds) := r.append hd
  have hl : (us ++ ds).length = ps.length := by rw [← r2.length]; exact F.len _ _ _ _ h
  refine wpAny_call (codeAny_mono (F.run A X.stack s H ⟨us, []⟩ (us ++ ds) (vs ++ dvs) Q E hr e0 (hb s us I.kIn hl) r2 h) fun r s' hq => ?_)
  cases r with
  | error e => exact hx pins H s e s' I hq
  | ok fl =>
    cases fl with
    | ret u => exact I.after hq
    | next => exact False.elim hq
    | brk => exact False.elim hq
    | cont => exact False.elim hq
/-- .. without defaults -/
theorem run_at0 {A : Around} {pins : List (Addr × Obj)} {σ : L2.St} {H : Hp} {s : Shared} {Q : VK} {E : XK} {us : List Value} {vs : List V} (F : FnOk X.prog X.w X.K X.mg X.base CX k f fd ps sp) (hr : Room k A) (fr : A.frames = X.A.frames) (hb : L2.Binds X.K fd ps [])
    (hx : PassesAt CX X σ E) (I : L2.Inv X pins σ H s) (r : Vals vs us) (h : sp vs H Q E) : wpAny (model X.prog X.w) A (call (.ref f) us) (EP X pins σ Q) X.xe s :=
  run_at (dvs := []) F hr fr hb .nil hx I r (by rw [List.append_nil]; exact h)

/-- f(e, ..) -/
theorem pe_fn (F : Fn X.prog X.w X.K X.mg X.base x k ps dvs sp) (hr : Room k X.A) (hx : Ps X E) (ha : PA X (e :: es) t) (hg : Gl X x := by rfl) (hdb : (x == ("__debug__" : Str)) = false := by decide)
    (he : starEach (e :: es) X.env = (false, eval e X.env) :: starEach es X.env := by rfl) (hpl : (backTo pos (starEach es X.env)).any (·.1) = false := by rfl) :
    PE X (.Call (.Name x p) (e :: es) [] pos) (tCallSD sp dvs E t) := by
  obtain ⟨f, fd, ds, F, hm, hk, hb, hd⟩ := F.ex
  exact pe_callSD F hr hg hm hk hb hd hx ha hdb he hpl

/-- o.m(e, ..), o.m() -/
def tMtS (C : Addr) (m : Str) (sp : Sp) (dvs : List V) (E : L2.St → XK) (ta : TE) (t : TA) : TE := fun σ H Q => ta σ H fun x H1 => ∃ a dx fs, x = .ref a ∧ H1 a = some (.ins C dx fs) ∧ fs.lookup m = none ∧
  t σ H1 fun vs H2 => sp (.ref a :: (vs ++ dvs)) H2 Q (E σ)
theorem pe_mt {pl : Sem Bool} (F : Mt X.prog X.w X.K X.mg X.base C m k ps dvs sp) (hr : Room k X.A) (hx : Ps X E) (he : PE X o ta) (ha : PA X (e :: es) t)
    (hst : starEach (e :: es) X.env = (false, eval e X.env) :: starEach es X.env := by rfl) (hpl : (backTo pos (starEach es X.env)).any (·.1) = false := by rfl)
    (ht : eval (.Call (.Attribute o m apos) (e :: es) [] pos) X.env = (do
      let ov ← eval o X.env
      standAt apos.atName
      let (f, first) ← holding [ov] (getMethod ov m pl)
      callWith pos f first (backTo pos (starEach (e :: es) X.env)) (backToKw pos (keywordEach [] X.env))) := by rfl) :
    PE X (.Call (.Attribute o m apos) (e :: es) [] pos) (tMtS C m sp dvs E ta t) := by
  obtain ⟨⟨f, fd, ds, F, hm, hb, hd⟩, c⟩ := F
  refine ⟨fun pins s σ H Q I h => ?_⟩
  refine PySem.W.methodCall_KW (pl := pl) (thn (he.run pins s σ H _ I h) fun u s1 ⟨x, H1, I1, rx, a, dx, fs, ex, ea, l, q⟩ => ?_) ht
  subst ex
  obtain rfl : u = Value.ref a := rx
  refine getmeth_ok I1 ea c hm l ?_
  refine PySem.W.callWith_K (first := [.ref a]) (h₀ := X.base) I.ok.mod.kin hm.kp (thn (ha.run pos pins s1 σ H1 _ I1 q) fun us s2 ⟨vs, H2, I2, r, q2⟩ => ⟨I2.kIn, ?_⟩) hst hpl
  exact run_at (us := .ref a :: us) (vs := .ref a :: vs) F hr rfl hb hd (hx σ) I2 (.cons rfl r) q2
theorem pe_mt0 {pl : Sem Bool} (F : Mt X.prog X.w X.K X.mg X.base C m k ps dvs sp) (hr : Room k X.A) (hx : Ps X E) (he : PE X o ta)
    (ht : eval (.Call (.Attribute o m apos) [] [] pos) X.env = (do
      let ov ← eval o X.env
      standAt apos.atName
      let (f, first) ← holding [ov] (getMethod ov m pl)
      callWith pos f first (backTo pos (starEach [] X.env)) (backToKw pos (keywordEach [] X.env))) := by rfl) :
    PE X (.Call (.Attribute o m apos) [] [] pos) (tMtS C m sp dvs E ta tNil) := by
  obtain ⟨⟨f, fd, ds, F, hm, hb, hd⟩, c⟩ := F
  refine ⟨fun pins s σ H Q I h => ?_⟩
  refine PySem.W.methodCall_KW (pl := pl) (thn (he.run pins s σ H _ I h) fun u s1 ⟨x, H1, I1, rx, a, dx, fs, ex, ea, l, q⟩ => ?_) ht
  subst ex
  obtain rfl : u = Value.ref a := rx
  refine getmeth_ok I1 ea c hm l ?_
  exact PySem.W.callWith_K0 (first := [.ref a]) I1.kIn hm.kp (run_at (us := [.ref a]) (vs := [.ref a]) F hr rfl hb hd (hx σ) I1 (.cons rfl .nil) q)

/-- C(e, ..): a new instance and its dict, then __init__ -/
def tMkS (C : Addr) (sp : Sp) (dvs : List V) (E : L2.St → XK) (t : TA) : TE := fun σ H Q => t σ H fun vs H1 => ∀ x dx, H1 x = none → H1 dx = none → dx ≠ x →
  sp (.ref x :: (vs ++ dvs)) (upd (upd H1 dx (.own x)) x (.ins C dx [])) (fun v H2 => v = .non ∧ Q (.ref x) H2) (E σ)
theorem run_mk {pins : List (Addr × Obj)} {σ : L2.St} {H : Hp} {s : Shared} {Q : VK} {E : XK} {us : List Value} {vs : List V} (M : Mk X.K C f) (F : FnOk X.prog X.w X.K X.mg X.base CX k f fd ps sp) (hr : Room (k + 1) X.A) (hb : L2.Binds X.K fd ps ds) (hd : Vals dvs ds)
    (hx : PassesAt CX X σ E) (I : L2.Inv X pins σ H s) (r : Vals vs us)
    (h : ∀ x dx, H x = none → H dx = none → dx ≠ x → sp (.ref x :: (vs ++ dvs)) (upd (upd H dx (.own x)) x (.ins C dx [])) (fun v H2 => v = .non ∧ Q (.ref x) H2) E) :
    wpAny (model X.prog X.w) X.A (call (.ref C) us) (EP X pins σ Q) X.xe s := by
  have hq := h (s.heap.objs.size + 1) s.heap.objs.size (I.hok.fresh (Nat.le_succ _)) (I.hok.fresh (Nat.le_refl _)) (Nat.ne_of_lt (Nat.lt_succ_self _))
  have I2 := Inv.made (C := C) I
  have r2 : Vals (V.ref (s.heap.objs.size + 1) :: (vs ++ dvs)) (Value.ref (s.heap.objs.size + 1) :: (us ++ ds)) := .cons rfl (r.append hd)
  have hl : (Value.ref (s.heap.objs.size + 1) :: us ++ ds).length = ps.length := by
    have e := r2.length
    rw [F.len _ _ _ _ hq] at e
    exact e.symm
  refine wpAny_call (make_map (f := f) I.kIn M.makes M.init (beq_iff_eq.mp M.fn) (codeAny_mono (F.run _ X.stack _ _ ⟨Value.ref (s.heap.objs.size + 1) :: us, []⟩
    (Value.ref (s.heap.objs.size + 1) :: (us ++ ds)) _ _ E (hr.make C us []) (I2.env0.make C us []) (hb _ (Value.ref (s.heap.objs.size + 1) :: us) I2.kIn hl) r2 hq) fun r s' hq' => ?_))
  cases r with
  | error e => exact hx pins _ _ e s' I2 hq'
  | ok fl =>
    cases fl with
    | ret u =>
      obtain ⟨v, H', I3, rv, ev, q3⟩ := I2.after hq'
      subst ev
      exact ⟨rv, ⟨V.ref (s.heap.objs.size + 1), H', I3, rfl, q3⟩⟩
    | next => exact False.elim hq'
    | brk => exact False.elim hq'
    | cont => exact False.elim hq'
theorem pe_mk (M : Mc X.prog X.w X.K X.mg X.base x C k ps dvs sp) (hr : Room (k + 1) X.A) (hx : Ps X E) (ha : PA X (e :: es) t) (hg : Gl X x := by rfl) (hdb : (x == ("__debug__" : Str)) = false := by decide)
    (he : starEach (e :: es) X.env = (false, eval e X.env) :: starEach es X.env := by rfl) (hpl : (backTo pos (starEach es X.env)).any (·.1) = false := by rfl) :
    PE X (.Call (.Name x p) (e :: es) [] pos) (tMkS C sp dvs E t) := by
  obtain ⟨f, fd, ds, F, M, hm, hb, hd⟩ := M.ex
  refine ⟨fun pins s σ H Q I h => ?_⟩
  refine wpAny_Call_Name_kw (ld_glob I hg hm ?_ hdb)
  refine PySem.W.callWith_K (h₀ := X.base) I.ok.mod.kin M.kp (thn (ha.run pos pins s σ H _ I h) fun us s1 ⟨vs, H1, I1, r, q⟩ => ⟨I1.kIn, ?_⟩) he hpl
  exact run_mk M F hr hb hd (hx σ) I1 r q

/-! ### operators with the slots -/
abbrev R2S := L2.St → R2
def OpS (X : Cx) (f : Value → Value → Sem Value) (r : R2S) : Prop :=
  ∀ (pins : List (Addr × Obj)) (s : Shared) (σ : L2.St) (H : Hp) (x y : V) (v u : Value) (Q : VK), L2.Inv X pins σ H s → RelV x v → RelV y u → r σ x y H Q →
    wpAny (model X.prog X.w) X.A (f v u) (EP X pins σ Q) X.xe s
def tOpS (r : R2S) (ta tb : TE) : TE := fun σ H Q => ta σ H fun x H1 => tb σ H1 fun y H2 => r σ x y H2 Q
theorem OpS.of {f : Value → Value → Sem Value} {r : R2} (h : OpR X f r) : OpS X f (fun _ => r) := fun pins s σ H x y v u Q I rx ry q => h pins s σ H x y v u Q I rx ry q
theorem OpS.or {f : Value → Value → Sem Value} {r r' : R2S} (h : OpS X f r) (h' : OpS X f r') : OpS X f (fun σ x y H Q => r σ x y H Q ∨ r' σ x y H Q) := fun pins s σ H x y v u Q I rx ry q => by
  rcases q with q | q
  · exact h pins s σ H x y v u Q I rx ry q
  · exact h' pins s σ H x y v u Q I rx ry q
theorem pe_opS {op : Operator} {r : R2S} (ho : OpS X (binaryOp op) r) (ha : PE X a ta) (hb : PE X b tb) : PE X (.BinOp a op b pos) (tOpS r ta tb) :=
  ⟨fun pins s σ H Q I h => wpAny_BinOp (binT ha hb I h fun v u s2 x y H2 I2 rx ry q => ho pins s2 σ H2 x y v u Q I2 rx ry q)⟩
theorem pe_cmpS {op : CmpOp} {r : R2S} (ho : OpS X (compareOp op) r) (ha : PE X a ta) (hb : PE X b tb) (hm : behindInMarks op b = false) : PE X (.Compare a [op] [b] pos) (tOpS r ta tb) :=
  ⟨fun pins s σ H Q I h => wpAny_Compare1 (binT ha hb I h fun v u s2 x y H2 I2 rx ry q => ho pins s2 σ H2 x y v u Q I2 rx ry q) hm⟩
theorem pt_cmpS {op : CmpOp} {r : R2S} (ho : OpS X (compareOp op) r) (ha : PE X a ta) (hb : PE X b tb) (hm : behindInMarks op b = false) : PT X (.Compare a [op] [b] pos) (tTest (tOpS r ta tb)) := by
  refine ⟨fun pins s σ H Q I h => wpAny_isTrue_Compare1 (thn (ha.run pins s σ H _ I h) fun v s1 ⟨x, H1, I1, r1, q1⟩ => thn (hb.run pins s1 σ H1 _ I1 q1) fun u s2 ⟨y, H2, I2, r2, q2⟩ =>
    thn (ho pins s2 σ H2 x y v u _ I2 r1 r2 q2) fun c s3 hz => ?_) hm⟩
  obtain ⟨z, H3, I3, r3, k, e, q3⟩ := hz
  subst e
  cases r3
  exact wpAny_truthy_bool ⟨H3, I3, q3⟩
def UnS (X : Cx) (f : Value → Sem Value) (r : L2.St → V → Hp → VK → Prop) : Prop :=
  ∀ (pins : List (Addr × Obj)) (s : Shared) (σ : L2.St) (H : Hp) (x : V) (v : Value) (Q : VK), L2.Inv X pins σ H s → RelV x v → r σ x H Q → wpAny (model X.prog X.w) X.A (f v) (EP X pins σ Q) X.xe s
def tUnS (r : L2.St → V → Hp → VK → Prop) (ta : TE) : TE := fun σ H Q => ta σ H fun x H1 => r σ x H1 Q
theorem UnS.of {f : Value → Sem Value} {r : V → Hp → VK → Prop} (h : UnR X f r) : UnS X f (fun _ => r) := fun pins s σ H x v Q I rx q => h pins s σ H x v Q I rx q
theorem pe_unS {op : UnaryOp} {r : L2.St → V → Hp → VK → Prop} (ho : UnS X (unaryOp op) r) (ha : PE X a ta) : PE X (.UnaryOp op a pos) (tUnS r ta) :=
  ⟨fun pins s σ H Q I h => UnaryOp_ (thn (ha.run pins s σ H _ I h) fun v s1 ⟨x, H1, I1, r1, q1⟩ => ho pins s1 σ H1 x v Q I1 r1 q1)⟩
/-- a call of a built-in by values, with the slots -/
def CallS (X : Cx) (f : Value) (r : L2.St → List V → Hp → VK → Prop) : Prop :=
  ∀ (pins : List (Addr × Obj)) (s : Shared) (σ : L2.St) (H : Hp) (xs : List V) (us : List Value) (Q : VK), L2.Inv X pins σ H s → Vals xs us → r σ xs H Q → wpAny (model X.prog X.w) X.A (call f us) (EP X pins σ Q) X.xe s
def tCBS (r : L2.St → List V → Hp → VK → Prop) (t : TA) : TE := fun σ H Q => t σ H fun vs H1 => r σ vs H1 Q
theorem CallS.of {f : Value} {r : List V → Hp → VK → Prop} (h : CallR X f r) : CallS X f (fun _ => r) := fun pins s σ H xs us Q I rx q => h pins s σ H xs us Q I rx q
theorem CallS.or {f : Value} {r r' : L2.St → List V → Hp → VK → Prop} (h : CallS X f r) (h' : CallS X f r') : CallS X f (fun σ xs H Q => r σ xs H Q ∨ r' σ xs H Q) := fun pins s σ H xs us Q I rx q => by
  rcases q with q | q
  · exact h pins s σ H xs us Q I rx q
  · exact h' pins s σ H xs us Q I rx q
theorem pe_callBS {id : String} {r : L2.St → List V → Hp → VK → Prop} (hc : CallS X (.builtin id) r) (hm : X.mg x = none) (hv : bootBuiltins x = some (.builtin id)) (ha : PA X (e :: es) t) (hg : Gl X x := by rfl) (hn : x ≠ "__name__" := by decide) (hdb : (x == ("__debug__" : Str)) = false := by decide)
    (he : starEach (e :: es) X.env = (false, eval e X.env) :: starEach es X.env := by rfl) (hpl : (backTo pos (starEach es X.env)).any (·.1) = false := by rfl) : PE X (.Call (.Name x p) (e :: es) [] pos) (tCBS r t) :=
  ⟨fun pins s σ H Q I h => wpAny_Call_Name_kw (ld_blt I hg hm hv (PyProof.Rows.callWith_builtin1 (thn (ha.run pos pins s σ H _ I h) fun us s1 ⟨vs, H1, I1, r1, q1⟩ => hc pins s1 σ H1 vs us Q I1 r1 q1) he hpl) hn hdb)⟩
theorem pe_callTS {T : String} {r : L2.St → List V → Hp → VK → Prop} (hc : CallS X (.type T) r) (hm : X.mg x = none) (hv : bootBuiltins x = some (.type T)) (ha : PA X (e :: es) t) (hg : Gl X x := by rfl) (hn : x ≠ "__name__" := by decide) (hdb : (x == ("__debug__" : Str)) = false := by decide)
    (he : starEach (e :: es) X.env = (false, eval e X.env) :: starEach es X.env := by rfl) (hpl : (backTo pos (starEach es X.env)).any (·.1) = false := by rfl) : PE X (.Call (.Name x p) (e :: es) [] pos) (tCBS r t) :=
  ⟨fun pins s σ H Q I h => wpAny_Call_Name_kw (ld_blt I hg hm hv (PyProof.Rows.callWith_type1 (thn (ha.run pos pins s σ H _ I h) fun us s1 ⟨vs, H1, I1, r1, q1⟩ => hc pins s1 σ H1 vs us Q I1 r1 q1) he hpl) hn hdb)⟩

/-! ### own operators -/
theorem inst_of {pins : List (Addr × Obj)} {σ : L2.St} {H : Hp} {s : Shared} {a dx : Addr} {fs : List (Str × V)} (I : L2.Inv X pins σ H s) (ea : H a = some (.ins C dx fs)) : ∃ ox od, PySem.W.InstAt s.heap a ox C od := by
  obtain ⟨mA, J, _⟩ := ins_get I.hok ea
  obtain ⟨od, J, _⟩ := J.look
  exact ⟨_, _, J⟩
theorem cmpBack_ep {pins : List (Addr × Obj)} {σ : L2.St} {Q : VK} {u : Value} {s' : Shared} (h : EP X pins σ Q u s') : PySem.W.CmpBack (EP X pins σ Q) u s' := by
  obtain ⟨v, H', I, r, q⟩ := id h
  cases v with
  | non => cases (show u = _ from r); exact h
  | bl b => cases (show u = _ from r); exact h
  | int i => obtain ⟨t, e⟩ := (show ∃ t, u = Value.int i t from r); cases e; exact h
  | str i => obtain ⟨t, e⟩ := (show ∃ t, u = Value.str i t from r); cases e; exact h
  | byt i => obtain ⟨t, e⟩ := (show ∃ t, u = Value.bytes i t from r); cases e; exact h
  | flt i => obtain ⟨t, e⟩ := (show ∃ t, u = Value.float i t from r); cases e; exact h
  | ref a => cases (show u = _ from r); exact h
  | ty a => cases (show u = _ from r); exact h

/-- x op y, both instances of the class at C -/
def rOwn (C : Addr) (sp : Sp) (E : L2.St → XK) : R2S := fun σ x y H Q => ∃ a dx fs b dy gs, x = .ref a ∧ H a = some (.ins C dx fs) ∧ y = .ref b ∧ H b = some (.ins C dy gs) ∧ sp [.ref a, .ref b] H Q (E σ)
theorem op_own {op : Operator} (S : Sm X.prog X.w X.K X.mg X.base C (PySem.dunder op.info.2) k ps sp) (hr : Room k X.A) (hx : Ps X E) (hc : PySem.W.selfFirst X.K C = true) : OpS X (binaryOp op) (rOwn C sp E) := by
  intro pins s σ H x y v u Q I rx ry hq
  obtain ⟨f, fd, F, hs, hf, hb⟩ := S.ex
  obtain ⟨a, dx, fs, b, dy, gs, rfl, ha, rfl, hb', q⟩ := hq
  cases rx
  cases ry
  obtain ⟨_, _, J⟩ := inst_of I ha
  obtain ⟨_, _, J'⟩ := inst_of I hb'
  obtain ⟨m, hF⟩ := I.fr
  refine PySem.W.binop_K hF I.ok.mod.kin J J'.type hc hs hf ?_
  exact thn (run_at0 (vs := [.ref a, .ref b]) F hr rfl hb (hx σ) I (.cons rfl (.cons rfl .nil)) q) fun _ _ z => cmpBack_ep z
/-- what the walk asks of a built-in type at the right of an own operator -/
structure RightT (K : PySem.W.Frag) (C : Addr) (T nm : String) : Prop where
  r1 : ∃ fo, PySem.W.findIn K (.type T) (PySem.dunder nm) = some fo
  r2 : ∃ ro, PySem.W.findIn K (.type T) (dunderR nm) = some ro
  rc : ∃ rc, PySem.W.findIn K (.ref C) (dunderR nm) = some rc ∧ (rc = none ∨ ∃ g : Addr, rc = some (.ref g))
  sub : PySem.W.subIn K (.type T) (.ref C) = some false
/-- x op y, y an int -/
def rOwnI (C : Addr) (sp : Sp) (E : L2.St → XK) : R2S := fun σ x y H Q => ∃ a dx fs i, x = .ref a ∧ H a = some (.ins C dx fs) ∧ y = .int i ∧ sp [.ref a, .int i] H Q (E σ)
theorem op_ownI {op : Operator} (S : Sm X.prog X.w X.K X.mg X.base C (PySem.dunder op.info.2) k ps sp) (hr : Room k X.A) (hx : Ps X E) (hc : PySem.W.selfFirst X.K C = true) (hi : RightT X.K C "int" op.info.2) : OpS X (binaryOp op) (rOwnI C sp E) := by
  intro pins s σ H x y v u Q I rx ry hq
  obtain ⟨f, fd, F, hs, hf, hb⟩ := S.ex
  obtain ⟨a, dx, fs, i, rfl, ha, rfl, q⟩ := hq
  cases rx
  obtain ⟨t, rfl⟩ := (show ∃ t, u = Value.int i t from ry)
  obtain ⟨_, _, J⟩ := inst_of I ha
  obtain ⟨m, hF⟩ := I.fr
  obtain ⟨fo, h1⟩ := hi.r1
  obtain ⟨ro, h2⟩ := hi.r2
  obtain ⟨rc, h3, h4⟩ := hi.rc
  refine PySem.W.ksp_binT hF I.ok.mod.kin J (T := "int") rfl hc hs hf h3 h4 h1 h2 hi.sub ?_
  exact thn (run_at0 (vs := [.ref a, .int i]) F hr rfl hb (hx σ) I (.cons rfl (.cons ⟨t, rfl⟩ .nil)) q) fun _ _ z => cmpBack_ep z
/-- x == y by the text's own ==, y an instance of the same class -/
theorem op_ownEq (S : Sm X.prog X.w X.K X.mg X.base C "__eq__" k ps sp) (hr : Room k X.A) (hx : Ps X E) : OpS X (compareOp .Eq) (rOwn C sp E) := by
  intro pins s σ H x y v u Q I rx ry hq
  obtain ⟨f, fd, F, hs, hf, hb⟩ := S.ex
  obtain ⟨a, dx, fs, b, dy, gs, rfl, ha, rfl, hb', q⟩ := hq
  cases rx
  cases ry
  obtain ⟨_, _, J⟩ := inst_of I ha
  obtain ⟨_, _, J'⟩ := inst_of I hb'
  obtain ⟨m, hF⟩ := I.fr
  show wpAny (model X.prog X.w) X.A (richCompare .Eq _ _) (EP X pins σ Q) X.xe s
  refine PySem.W.cmp_K (op := .Eq) (tb := .ref C) hr.units0 hF I.ok.mod.kin J J'.type (by simp [PySem.W.notFirst]) hs hf ?_
  exact thn (run_at0 (vs := [.ref a, .ref b]) F hr rfl hb (hx σ) I (.cons rfl (.cons rfl .nil)) q) fun _ _ z => cmpBack_ep z
/-- y in x by the text's own __contains__, which gives a bool -/
def rOwnIn (C : Addr) (sp : Sp) (E : L2.St → XK) : R2S := fun σ y x H Q => ∃ a dx fs, x = .ref a ∧ H a = some (.ins C dx fs) ∧ sp [.ref a, y] H (fun v H' => ∃ c, v = .bl c ∧ Q (.bl c) H') (E σ)
theorem op_ownIn (S : Sm X.prog X.w X.K X.mg X.base C "__contains__" k ps sp) (hr : Room k X.A) (hx : Ps X E) : OpS X (compareOp .In) (rOwnIn C sp E) := by
  intro pins s σ H y x v u Q I ry rx hq
  obtain ⟨f, fd, F, hs, hf, hb⟩ := S.ex
  obtain ⟨a, dx, fs, rfl, ha, q⟩ := hq
  cases rx
  obtain ⟨_, _, J⟩ := inst_of I ha
  obtain ⟨m, hF⟩ := I.fr
  refine PySem.W.in_K hF I.ok.mod.kin J hs hf ?_
  refine thn (run_at0 (vs := [.ref a, y]) F hr rfl hb (hx σ) I (.cons rfl (.cons ry .nil)) q) fun r s' z => ?_
  obtain ⟨w', H', I', rw', c, ec, q'⟩ := z
  subst ec
  cases rw'
  exact wpAny_truthy_bool ⟨.bl c, H', I', rfl, q'⟩
/-- -x by the text's own __neg__ -/
def rOwn1 (C : Addr) (sp : Sp) (E : L2.St → XK) : L2.St → V → Hp → VK → Prop := fun σ x H Q => ∃ a dx fs, x = .ref a ∧ H a = some (.ins C dx fs) ∧ sp [.ref a] H Q (E σ)
theorem un_own (S : Sm X.prog X.w X.K X.mg X.base C "__neg__" k ps sp) (hr : Room k X.A) (hx : Ps X E) : UnS X (unaryOp .USub) (rOwn1 C sp E) := by
  intro pins s σ H x v Q I rx hq
  obtain ⟨f, fd, F, hs, hf, hb⟩ := S.ex
  obtain ⟨a, dx, fs, rfl, ha, q⟩ := hq
  cases rx
  obtain ⟨_, _, J⟩ := inst_of I ha
  obtain ⟨m, hF⟩ := I.fr
  refine PySem.W.ksp_neg hF I.ok.mod.kin J hs hf ?_
  exact run_at0 (vs := [.ref a]) F hr rfl hb (hx σ) I (.cons rfl .nil) q
/-- abs(x) by the text's own __abs__ -/
def rOwnC (C : Addr) (sp : Sp) (E : L2.St → XK) : L2.St → List V → Hp → VK → Prop := fun σ xs H Q => ∃ a dx fs, xs = [.ref a] ∧ H a = some (.ins C dx fs) ∧ sp [.ref a] H Q (E σ)
theorem call_ownAbs (S : Sm X.prog X.w X.K X.mg X.base C "__abs__" k ps sp) (hr : Room (k + 1) X.A) (hx : Ps X E) : CallS X (.builtin "abs") (rOwnC C sp E) := by
  intro pins s σ H xs us Q I r hq
  obtain ⟨f, fd, F, hs, hf, hb⟩ := S.ex
  obtain ⟨a, dx, fs, rfl, ha, q⟩ := hq
  obtain ⟨u, rfl, rx⟩ := vals1 r
  cases rx
  obtain ⟨_, _, J⟩ := inst_of I ha
  obtain ⟨m, hF⟩ := I.fr
  refine PySem.Calls.call_function_entry kind_abs plain_abs entry_abs (args_abs _) ?_
  unfold Builtin.«abs»
  refine wpAny_bind (m := oneArg "abs" _) (wpAny_pure ?_)
  refine wpAny_bind (m := callSpecial? (.ref a) (Str.ofString "__abs__")) (PySem.W.special_fn I.kIn J hs (beq_iff_eq.mp hf) (wpAny_mono (run_at0 (vs := [.ref a]) F hr.in1 rfl hb (hx σ) I (.cons rfl .nil) q) (fun r s' hr => ?_) fun _ _ y => y))
  exact wpAny_pure ⟨_, rfl, hr⟩
/-- len(x) by the text's own __len__ -/
def rOwnLen (C : Addr) (sp : Sp) (E : L2.St → XK) : L2.St → List V → Hp → VK → Prop := fun σ xs H Q => ∃ a dx fs, xs = [.ref a] ∧ H a = some (.ins C dx fs) ∧ sp [.ref a] H (fun v H' => ∃ n : Int, v = .int n ∧ 0 ≤ n ∧ n < 2 ^ 63 ∧ Q (.int n) H') (E σ)
theorem call_ownLen (S : Sm X.prog X.w X.K X.mg X.base C "__len__" k ps sp) (hr : Room (k + 1) X.A) (hx : Ps X E) : CallS X (.builtin "len") (rOwnLen C sp E) := by
  intro pins s σ H xs us Q I r hq
  obtain ⟨f, fd, F, hs, hf, hb⟩ := S.ex
  obtain ⟨a, dx, fs, rfl, ha, q⟩ := hq
  obtain ⟨u, rfl, rx⟩ := vals1 r
  cases rx
  obtain ⟨_, _, J⟩ := inst_of I ha
  obtain ⟨m, hF⟩ := I.fr
  refine PySem.W.len_K hF I.ok.mod.kin J hs hf ?_
  refine thn (run_at0 (vs := [.ref a]) F hr.in1 rfl hb (hx σ) I (.cons rfl .nil) q) fun r s' z => ?_
  obtain ⟨v, H', I', rv, n, rfl, h0, h1, q'⟩ := z
  obtain ⟨t, rfl⟩ := (show ∃ t, r = Value.int n t from rv)
  exact ⟨⟨h0, h1⟩, .int n, H', I'.tok _, ⟨_, rfl⟩, q'⟩
/-- the truth of x by the text's own __bool__ -/
theorem truthy_own {A : Around} {pins : List (Addr × Obj)} {σ : L2.St} {H : Hp} {s : Shared} {Q : Bool → Hp → Prop} {a dx : Addr} {fs : List (Str × V)} (S : Sm X.prog X.w X.K X.mg X.base C "__bool__" k ps sp) (hr : Room k A) (fr : A.frames = X.A.frames) (hx : Ps X E)
    (I : L2.Inv X pins σ H s) (ha : H a = some (.ins C dx fs)) (q : sp [.ref a] H (fun v H' => ∃ c, v = .bl c ∧ Q c H') (E σ)) : wpAny (model X.prog X.w) A (truthy (.ref a)) (TP X pins σ Q) X.xe s := by
  obtain ⟨f, fd, F, hs, hf, hb⟩ := S.ex
  obtain ⟨_, _, J⟩ := inst_of I ha
  obtain ⟨m, hF⟩ := I.fr
  refine PySem.W.truthy_K hF I.ok.mod.kin J hs hf ?_
  refine thn (run_at0 (vs := [.ref a]) F hr fr hb (hx σ) I (.cons rfl .nil) q) fun r s' z => ?_
  obtain ⟨v, H', I', rv, c, rfl, q'⟩ := z
  cases (show r = _ from rv)
  exact ⟨H', I', q'⟩
/-- bool(x) -/
def rOwnB (C : Addr) (sp : Sp) (E : L2.St → XK) : L2.St → List V → Hp → VK → Prop := fun σ xs H Q => ∃ a dx fs, xs = [.ref a] ∧ H a = some (.ins C dx fs) ∧ sp [.ref a] H (fun v H' => ∃ c, v = .bl c ∧ Q (.bl c) H') (E σ)
theorem call_ownBool (S : Sm X.prog X.w X.K X.mg X.base C "__bool__" k ps sp) (hr : Room (k + 2) X.A) (hx : Ps X E) : CallS X (.type "bool") (rOwnB C sp E) := by
  intro pins s σ H xs us Q I r hq
  obtain ⟨a, dx, fs, rfl, ha, q⟩ := hq
  obtain ⟨u, rfl, rx⟩ := vals1 r
  cases rx
  refine callType_newIn PySem.F.called_bool PySem.F.newNe_bool (PySem.F.typeCall_bool_1 _) (PySem.F.newCall_bool_1 _) (fun obj => PySem.F.args_object_init_2 obj _) PySem.F.entry_bool_new
    (S := fun A' R s' => A' = X.A.in1 ∧ s' = s ∧ R = wants (fun obj s₁ => s₁.TypeIs obj "bool" ∧ EP X pins σ Q obj s₁) X.xe) ?_ ⟨rfl, rfl, rfl⟩
  intro A' R s' h'
  obtain ⟨rfl, rfl, rfl⟩ := h'
  have f1 := PySem.F.conv_sub_bool
  unfold Builtin.«bool.__new__»
  have key := truthy_own (A := X.A.in1.in1) (Q := fun c H' => Q (.bl c) H') S (hr.in1.in1) rfl hx I ha q
  have key' : ∀ Q' : Bool → Shared → Prop, (∀ c s2, TP X pins σ (fun c H' => Q (.bl c) H') c s2 → Q' c s2) → wpAny (model X.prog X.w) X.A.in1.in1 (truthy (Value.ref a)) Q' X.xe s' := fun Q' h => thn key h
  have k2 : ∀ c s2, TP X pins σ (fun c H' => Q (.bl c) H') c s2 → (s2.TypeIs (.bool c) "bool" ∧ EP X pins σ Q (.bool c) s2) := fun c s2 z => by
    obtain ⟨H', I', q'⟩ := z
    exact ⟨rfl, .bl c, H', I', rfl, q'⟩
  clear key q I ha hx r
  obtain ⟨hp, g, d, tk, os⟩ := s'
  refine wpAny_bind ?_
  repeat (any_goals (first | assumption | ((with_reducible show wpAny _ _ (truthy _ >>= _) _ _ _); refine wpAny_bind (key' _ fun c s2 z => ?_)) | wp_step))
  all_goals exact k2 _ _ z
end
end GG

/-! GX: the text's errors (classes under GangError, whose __init__ stores the subject): raised, caught, asked. -/
namespace PySem
namespace GErr
open PySem.W PySem.Calls PyProof.Rows PySem.HandSPX
def iA (p1 p2 : Pos) : Arguments := { posonlyargs := [], args := [{ arg := "self", annotation := none, pos := p1 }, { arg := "subject", annotation := none, pos := p2 }], vararg := none, kwonlyargs := [], kw_defaults := [], kwarg := none, defaults := [] }
def iB (q1 q2 q3 q4 : Pos) : List Stmt := [.Assign [.Attribute (.Name "self" q1) "subject" q2] (.Name "subject" q3) q4]
def iS : Scope := { kind := .function, names := [(PySem.Str.ofString "self", .local), (PySem.Str.ofString "subject", .local)], isGenerator := false, isCoroutine := false, more := [] }
/-- what the written part says of the error class x, at C, whose __init__ is GangError's, at fI -/
structure ErrTxt (K : Frag) (mg : Str → Option Value) (x : Str) (C fI : Addr) : Prop where
  gC : mg x = some (.ref C)
  cls : ∃ nm q N bs bm sn sub ab col dd k0 k1 k2 k3 k5, K.lookup C = some (excClassObj nm q C N bs bm true sn sub ab col dd k0 k1 k2 k3 k5 "ValueError.__new__") ∧ refsVE bm = true
  sa : findIn K (.ref C) "__setattr__" = some (some (.builtin "object.__setattr__"))
  ga : findIn K (.ref C) "__getattribute__" = some (some (.builtin "BaseException.__getattribute__"))
  gg : findIn K (.ref C) "__getattr__" = some none
  noN : findIn K (.ref C) "subject" = some none
  iC : findIn K (.ref C) "__init__" = some (some (.ref fI))
  tC : typeIn K (.ref fI) = some (.type "function")
  kC : keepIn K (.ref C) = true
  exC : subIn K (.ref C) (.type "BaseException") = some true
  tyC : typeIn K (.ref C) = some (.type "type")
  hdC : hasDictIn K C = true
  haC : findIn K (.ref C) "__class__" = some (some (.builtin "object.__class__"))
  hnC : specialIn K (.builtin "object.__class__") "__get__" = some (some (.builtin "getset_descriptor.__get__"))
  htC : takesIn K (.builtin "object.__class__") = some true
  hmC : mroIn K C (.type "object") = some true
  fn : ∃ (oc : Value) (od : Option Addr) (doc pm : Value) (an : Option Addr) (cdv ct : Value) (osl : Array (Option Value)) (p1 p2 q1 q2 q3 q4 : Pos),
    K.lookup fI = some ⟨oc, od, .func (fnOf "__init__" "GangError.__init__" (iA p1 p2) (iB q1 q2 q3 q4) iS .none .none doc pm an cdv ct), osl⟩ ∧ codeIn K cdv "GangError.__init__" = true
theorem one_size (v : Value) : [v].length ≤ sizeLine := by
  rw [sizeLine_eq]
  exact (by decide : 1 ≤ 16777216)
theorem ldC {M : Model} {s : Shared} {name : Str} {scope : Scope} {L a : Addr} {cd : Value} {m : Str → Option Value} {x : Str} {pos : Pos} {v : Value} {Q : Value → Shared → Prop} {A : Around} {E : Value → Shared → Prop} (hn : s.heap.Ns L m) (hv : m x = some v) (h : Q v s)
    (hk : scope.kind = .function := by rfl) (hl : (envOfC name scope L a cd).kindOf x = some .local := by rfl) (hd : (x == ("__debug__" : Str)) = false := by decide) :
    wpAny M A (eval (.Name x pos) (envOfC name scope L a cd)) Q E s := wpAny_Name (wpAny_loadName_local hk hl hn hv h) hd
/-- what __init__ leaves of a fresh exception at x -/
structure InitEnd (h h' : Heap) (x C dx t1 : Addr) (v : Value) : Prop where
  keep : ∀ b o, b ≠ x → h.get? b = some o → h'.get? b = some o
  obj : h'.get? x = some { cls := .ref C, dict := some dx, data := .fields #[.ref t1, .none, .none, .none, .bool false, .none] }
  dbig : h.objs.size ≤ dx
  dne : dx ≠ x
  ns : h'.Ns1 dx (fun y => if y = "subject" then some v else none)
/-- a made error -/
structure OwnMade (h h' : Heap) (e C d : Addr) (v : Value) : Prop where
  keep : ∀ b o, h.get? b = some o → h'.get? b = some o
  new : h.objs.size ≤ e
  obj : ∃ oe vs, h'.get? e = some oe ∧ oe.cls = .ref C ∧ oe.dict = some d ∧ oe.data = .fields vs ∧ vs[1]? = some .none ∧ vs[2]? = some .none
  dbig : h.objs.size ≤ d
  dne : d ≠ e
  ns : h'.Ns1 d (fun y => if y = "subject" then some v else none)
section
variable {prog : Program} {w : World} {A : Around} {E : Value → Shared → Prop} {R : Result → Shared → Prop} {s : Shared} {K : Frag} {mg : Str → Option Value} {xn : Str} {C fI : Addr}
theorem err_init (T : ErrTxt K mg xn C fI) {x t0 : Addr} {v : Value} (X : K.In s.heap) (hlim : s.heap.NoLimit) (hx : s.heap.get? x = some (excO C t0)) (hnx : K.lookup x = none) (hroom : A.depth < recursionLimit)
    (hq : ∀ h' tk dx, InitEnd s.heap h' x C dx t0 v → R (.ok (.ret .none)) { s with heap := h', toks := tk }) :
    codeAny (model prog w) A (.call (.ref fI) ⟨[.ref x, v], []⟩) R s := by
  obtain ⟨oc, od, doc, pm, an, cdv, ct, osl, p1, p2, q1, q2, q3, q4, ho, hcd⟩ := T.fn
  obtain ⟨nm, q, N, bs, bm, sn, sub, ab, col, dd, k0, k1, k2, k3, k5, hC, hbm⟩ := T.cls
  have hcl : clsIn K C = some { name := nm, bases := bs, mro := .ref C :: bm, ns := N, qualname := q, hasDict := true, slotNames := sn, subclasses := sub, abstract := ab, collection := col, hasDel := false } := by unfold clsIn; rw [hC] <;> rfl
  refine Att.call_fn (binds := [("self", .ref x), ("subject", v)]) X hlim ho hcd hroom (BindsTo.of_eq (by first | rfl | with_unfolding_all rfl)) (by first | rfl | decide | with_unfolding_all rfl) (fun s₁ IC => ?_) rfl rfl rfl
  obtain ⟨h₁, tk₁, rfl⟩ := IC.toInCall.same
  have k : ∀ b o, s.heap.get? b = some o → h₁.get? b = some o := IC.toInCall.keep
  have hn := IC.toInCall.ns
  have hxL : s.heap.objs.size ≠ x := Nat.ne_of_gt (Heap.lt_size hx)
  have X₁ : K.In h₁ := X.keeps k
  have hx₁ := k _ _ hx
  show wpAny _ _ (execs _ _) _ _ _
  refine wpAny_execs_cons (plainObj_wpAny_Assign_Attribute ?_)
  refine ldC (v := v) hn (by first | rfl | with_unfolding_all rfl | kernel_rfl) (ldC (v := .ref x) hn (by first | rfl | with_unfolding_all rfl | kernel_rfl) ?_)
  refine set_plain X₁ (ox := excO C t0) (od := none) ⟨hx₁, rfl, rfl, trivial⟩ T.sa ?_
  refine exc_osa X₁ hx₁ hcl (show refsVE (.ref C :: bm) = true from hbm) rfl T.noN (fun h₃ tk₃ dx k₃ dn dne hx₃ hn₃ => ?_)
  show wpAny _ _ (execs _ _) _ _ _
  have z : s.heap.objs.size < h₁.objs.size := hn.lt
  exact wpAny_execs_nil (hq h₃ tk₃ dx ⟨fun b o hb e => k₃ b o hb (k b o e), hx₃, Nat.le_of_lt (Nat.lt_of_lt_of_le z dn), dne, hn₃⟩)
theorem err_made (T : ErrTxt K mg xn C fI) {v : Value} (X : K.In s.heap) (hlim : s.heap.NoLimit) (hroom : A.depth + 1 < recursionLimit)
    (hq : ∀ h' tk e d, OwnMade s.heap h' e C d v → R (.ok (.ret (.ref e))) { s with heap := h', toks := tk }) :
    codeAny (model prog w) A (.call (.ref C) ⟨[v], []⟩) R s := by
  obtain ⟨nm, q, N, bs, bm, sn, sub, ab, col, dd, k0, k1, k2, k3, k5, hC, hbm⟩ := T.cls
  obtain ⟨hp, g, dr, tk, os⟩ := s
  have k : ∀ b o, hp.get? b = some o → ((hp.push (kdv_tup [v])).push (excO C hp.objs.size)).get? b = some o := fun b o e => Heap.get?_push_of_some _ (Heap.get?_push_of_some _ e)
  have hget : ((hp.push (kdv_tup [v])).push (excO C hp.objs.size)).get? (hp.objs.size + 1) = some (excO C hp.objs.size) := by heap_get
  have hnx : K.lookup (hp.objs.size + 1) = none := by
    cases e : K.lookup (hp.objs.size + 1) with
    | none => rfl
    | some o =>
      have z : hp.get? (hp.objs.size + 1) = some o := X _ _ e
      exact absurd (Nat.lt_of_succ_lt (Heap.lt_size z)) (Nat.lt_irrefl _)
  refine call_own F.excBase_ValueError (fun X => refsVE_contains X bm hbm) (X _ _ hC) (looks_findIn X T.iC) (fun self => bind_fn X self T.tC) (one_size v) ?_
  refine err_init (s := ⟨(hp.push (kdv_tup [v])).push (excO C hp.objs.size), g, dr, tk, os⟩) T (X.keeps k) (hlim.keeps k) hget hnx ?_ fun h' tk' dx ⟨k', hx, dn, dne, hns⟩ => ?_
  · show A.depth + 1 < recursionLimit
    exact hroom
  · have old : ∀ b o, hp.get? b = some o → h'.get? b = some o := fun b o e => k' b o (Nat.ne_of_lt (Nat.lt_succ_of_lt (Heap.lt_size e))) (k b o e)
    have z : hp.objs.size + 1 + 1 ≤ dx := by
      first
        | (simpa only [Heap.size_push] using dn)
        | exact dn
        | (have q := dn; rw [Heap.size_push, Heap.size_push] at q; exact q)
    exact ⟨rfl, hq h' tk' (hp.objs.size + 1) dx ⟨old, Nat.le_succ _, ⟨_, _, hx, rfl, rfl, rfl, rfl, rfl⟩, Nat.le_trans (Nat.le_trans (Nat.le_succ _) (Nat.le_succ _)) z, dne, hns⟩⟩
end
end GErr
end PySem
namespace GG
open PySem L2 PyProof.Rows
abbrev subj (v : V) : List (Str × V) := [(("subject" : Str), v)]
theorem relO_subj {v : V} {v' : Value} (r : RelV v v') (f : Str) : RelO (List.lookup f (subj v)) (if f = "subject" then some v' else none) := by
  by_cases hw : f = "subject"
  · subst hw
    rw [if_pos rfl]
    have q : List.lookup ("subject" : Str) (subj v) = some v := by simp [List.lookup]
    rw [q]
    exact r
  · rw [if_neg hw]
    have qw : (f == ("subject" : Str)) = false := by simpa using hw
    have q2 : List.lookup f (subj v) = none := by simp [List.lookup, qw]
    rw [q2]
    trivial
section
variable {X : Cx} {C fI : Addr} {xn : Str}
/-- Err(e) -/
def tMkErr (C : Addr) (ta : TA) : L2.St → Hp → XK → Prop := fun σ H Q => ta σ H fun vs H1 => ∃ v, vs = [v] ∧ ∀ d, H1 d = none → Q (.ref C) (some d) (upd H1 d (.xd (subj v)))
theorem pmk_err {a : Expr} {ta : TA} {p pos : Pos} {k : Nat} (T : PySem.GErr.ErrTxt X.K X.mg xn C fI) (hr : Room k X.A) (ha : PA X [a] ta) (hg : Gl X xn := by rfl) (hdb : (xn == ("__debug__" : Str)) = false := by decide)
    (he : starEach (a :: []) X.env = (false, eval a X.env) :: starEach [] X.env := by rfl) (hpl : (backTo pos (starEach [] X.env)).any (·.1) = false := by rfl) :
    L2N.PMk X (.Call (.Name xn p) [a] [] pos) (tMkErr C ta) := by
  intro pins s σ H Q I h
  refine wpAny_Call_Name_kw (ld_glob I hg T.gC ?_ hdb)
  refine PySem.W.callWith_K (h₀ := X.base) I.ok.mod.kin T.kC (thn (ha.run pos pins s σ H _ I h) fun us s1 hh => ?_) he hpl
  obtain ⟨vs, H1, I1, r1, v, ev, q1⟩ := hh
  subst ev
  refine ⟨I1.kIn, ?_⟩
  cases r1 with
  | cons rv rn =>
    rename_i v' us'
    cases rn
    show wpAny _ _ (call (.ref C) [v']) _ _ _
    have hlim := I1.nolimit
    obtain ⟨hp, g, dr, tk, os⟩ := s1
    refine wpAny_call (PySem.GErr.err_made T I1.kIn hlim (by have := hr.dp; omega) fun h' tk' e d M => ?_)
    show L2N.MkP X pins σ Q (.ref e) ⟨h', g, dr, tk', os⟩
    obtain ⟨oe, fv, hoe, hc, hd, hdat, h1, h2⟩ := M.obj
    have hns := M.ns
    obtain ⟨G', g1, g2⟩ := restrict h' fun b => decide (b ≠ e)
    have gk : ∀ b, b ≠ e → G'.get? b = h'.get? b := fun b hb => g1 b (decide_eq_true hb)
    have ge : G'.get? e = none := g2 e (by simp)
    have old : ∀ b o, hp.get? b = some o → G'.get? b = some o := fun b o q => (gk b (Nat.ne_of_lt (Nat.lt_of_lt_of_le (Heap.lt_size q) M.new))).trans (M.keep b o q)
    have ob : ObjOk X.prog X.w (upd H1 d (.xd (subj v))) G' d (.xd (subj v)) :=
      ⟨_, hns.at (fun o q => (gk d M.dne).trans q), fun f => relO_subj rv f⟩
    have J : L2.Inv X pins σ (upd H1 d (.xd (subj v))) ⟨G', g, dr, tk', os⟩ := I1.laid (t' := tk') old M.dbig ob
    refine ⟨e, oe, fv, ⟨G', g, dr, tk', os⟩, _, .ref C, some d, rfl, J, fun b o q => ?_, ge, hoe, ⟨hc, hd, fun vs e => by rw [hdat] at e; cases e; exact h2⟩, hdat, h1, ?_, rfl, I1.bare, raises_own T.exC T.tyC, q1 d (I1.hok.fresh M.dbig)⟩
    · by_cases hb : b = e
      · have q' : G'.get? b = some o := q
        rw [hb, ge] at q'; cases q'
      · exact (gk b hb).symm.trans q
    · rw [upd_ne (Ne.symm M.dne)]
      exact I1.hok.fresh M.new
/-- raise Err(e) -/
def tRaiseErr (C : Addr) (W : WX) (ta : TA) : TS := fun _ σ H => tMkErr C ta σ H fun cls d H' => W cls d σ H'
theorem ps_raiseErr {a : Expr} {ta : TA} {W : WX} {p pos pos2 : Pos} {k : Nat} (T : PySem.GErr.ErrTxt X.K X.mg xn C fI) (hr : Room k X.A) (tk : L2N.Takes X W) (ha : PA X [a] ta) (hc : X.calm = true := by rfl) (hg : Gl X xn := by rfl) (hdb : (xn == ("__debug__" : Str)) = false := by decide)
    (he : starEach (a :: []) X.env = (false, eval a X.env) :: starEach [] X.env := by rfl) (hpl : (backTo pos (starEach [] X.env)).any (·.1) = false := by rfl) :
    PS X (.Raise (some (.Call (.Name xn p) [a] [] pos)) none pos2) (tRaiseErr C W ta) := L2N.ps_raise hc tk (pmk_err T hr ha hg hdb he hpl)
/-- e.subject, e the exception that the suite holds (at a; its class cls, its dict d) -/
def tSubj (K : PySem.W.Frag) (mg : Str → Option Value) (a : Addr) (cls : Value) (d : Option Addr) (te : TE) : TE := fun σ H Q => te σ H fun x H1 => x = .ref a ∧ ∃ (n : Str) (C fI dd : Addr) (v : V), cls = .ref C ∧ PySem.GErr.ErrTxt K mg n C fI ∧ d = some dd ∧ H1 dd = some (.xd (subj v)) ∧ Q v H1
theorem pe_subj (K : PySem.W.Frag) (mg : Str → Option Value) {a : Addr} {oe : Obj} {cls : Value} {d : Option Addr} {e : Expr} {te : TE} {pos : Pos} (hz : Zc cls d oe) (hf : ∃ vs, oe.data = .fields vs) (he : PE X e te) (hp : (a, oe) ∈ X.pn := by exact List.Mem.head _)
    (hb : attributeBase e "subject" X.env (eval e X.env) = eval e X.env := by rfl) (hK : X.K = K := by rfl) (hM : X.mg = mg := by rfl) :
    PE X (.Attribute e "subject" pos) (tSubj K mg a cls d te) := by
  subst hK
  subst hM
  refine ⟨fun pins s σ H Q I h => attr_of hb (thn (he.run pins s σ H _ I h) fun u s1 hh => ?_)⟩
  obtain ⟨x, H1, I1, rx, ex, n, C, fI, dd, v, ec, T, ed, ea, q⟩ := hh
  subst ex
  obtain rfl : u = Value.ref a := rx
  subst ec
  subst ed
  obtain ⟨ha, _⟩ := I1.pin (a, oe) (List.mem_append_left _ hp)
  obtain ⟨vs, hd⟩ := hf
  have hx : ObjOk X.prog X.w H1 s1.heap dd (.xd (subj v)) := I1.hok dd _ ea
  obtain ⟨mA, hns, hr⟩ := hx
  obtain ⟨od, ho, hl⟩ := lookIn_ns hns
  have l : List.lookup ("subject" : Str) (subj v) = some v := by simp [List.lookup]
  obtain ⟨u, hu, ru⟩ := RelO.some_of (v := v) (o := mA "subject") (by rw [← l]; exact hr "subject")
  have J : PySem.W.InstAt s1.heap a oe C (some od) := ⟨ha, hz.1, by unfold PySem.W.notCls; rw [hd] <;> rfl, by rw [hz.2]; exact ho⟩
  exact HandSPX.exc_get I1.kIn J T.ga T.gg T.exC (PySem.W.findObj_own T.hdC T.noN rfl (by rw [hl, hu])) (handed_of ru) ⟨v, H1, I1.tok _, ru, q⟩
/-- isinstance(e, c), e the exception that the suite holds -/
def rIsX (K : PySem.W.Frag) (mg : Str → Option Value) (a : Addr) (cls : Value) (d : Option Addr) : List V → Hp → VK → Prop := fun xs H Q =>
  ∃ (n : Str) (C fI dd : Addr) (v : V) (c : V) (cv : Value) (b : Bool), xs = [.ref a, c] ∧ cls = .ref C ∧ PySem.GErr.ErrTxt K mg n C fI ∧ d = some dd ∧ H dd = some (.xd (subj v)) ∧ ClsV c cv ∧ PySem.W.kitOne K (.ref C) cv = some b ∧ Q (.bl b) H
theorem call_isX (K : PySem.W.Frag) (mg : Str → Option Value) {a : Addr} {oe : Obj} {cls : Value} {d : Option Addr} (hz : Zc cls d oe) (hf : ∃ vs, oe.data = .fields vs) (hp : (a, oe) ∈ X.pn := by exact List.Mem.head _) (hK : X.K = K := by rfl) (hM : X.mg = mg := by rfl) : CallR X (.builtin "isinstance") (rIsX K mg a cls d) := by
  subst hK
  subst hM
  intro pins s σ H xs us Q I r h
  obtain ⟨n, C, fI, dd, v, c, cv, b, rfl, ec, T, ed, ea, hcv, hk, q⟩ := h
  subst ec
  subst ed
  obtain ⟨u1, u2, rfl, r1, r2⟩ := vals2 r
  cases r1
  have e2 := hcv.eq r2
  subst e2
  obtain ⟨hget, _⟩ := I.pin (a, oe) (List.mem_append_left _ hp)
  obtain ⟨vs, hd⟩ := hf
  have hx : ObjOk X.prog X.w H s.heap dd (.xd (subj v)) := I.hok dd _ ea
  obtain ⟨mA, hns, hr⟩ := hx
  obtain ⟨od, ho, hl⟩ := lookIn_ns hns
  have J : PySem.W.InstAt s.heap a oe C (some od) := ⟨hget, hz.1, by unfold PySem.W.notCls; rw [hd] <;> rfl, by rw [hz.2]; exact ho⟩
  have hcl : (PySem.W.clsIn X.K C).isSome = true := by
    obtain ⟨cd, hc, _⟩ := PySem.W.any_some T.hdC
    rw [hc]
    rfl
  exact PySem.W.kia_one (PySem.W.kitx_exc (x := a) (ox := oe) (od := some od) hcl T.ga T.gg T.exC T.haC T.hnC T.htC T.hmC) I.kIn J hk (fun z => nomatch z) fun tk => ⟨.bl b, H, I.tok tk, rfl, q⟩
/-! ### try .. except C as n: suite -/
theorem pss_imp {sts : List Stmt} {t t' : TS} (h : PSs X sts t) (hi : ∀ D σ H, t' D σ H → t D σ H) : PSs X sts t' := ⟨fun pins s σ H D I q => h.run pins s σ H D I (hi D σ H q)⟩
variable {x n : Str} {c : Value} {i : Nat} {body suite : List Stmt} {b₀ : Stmt} {np pos pos' : Pos} {tb : WX → List (Addr × Obj) → (Value → Shared → Prop) → TS} {ts : Addr → Obj → Value → Option Addr → List (Addr × Obj) → TS} {Wout : WX}
def tAll (ts : Addr → Obj → Value → Option Addr → List (Addr × Obj) → TS) : Addr → Value → Option Addr → TS := fun a cls d D σ H => ∀ oe pn, ts a oe cls d pn D σ H
/-- the try with its suite, as a reading -/
def tTryAs (K : PySem.W.Frag) (c : Value) (i : Nat) (ts : Addr → Obj → Value → Option Addr → List (Addr × Obj) → TS) (Wout : WX) (tb : WX → List (Addr × Obj) → (Value → Shared → Prop) → TS) : TS := fun D σ H => ∀ pn xe, tb (wAs K c i (tAll ts) Wout D) pn xe D σ H
def tTryOnly (K : PySem.W.Frag) (c : Value) (ts : Addr → Obj → Value → Option Addr → List (Addr × Obj) → TS) (Wout : WX) (tb : WX → List (Addr × Obj) → (Value → Shared → Prop) → TS) : TS := fun D σ H => ∀ pn xe, tb (wOnly K c (tAll ts) Wout D) pn xe D σ H
theorem ps_tryAs (hN : X.N.Nodup) (hi : X.N[i]? = some n) (hc : Names X x c) (tk : L2N.Takes X Wout)
    (hb : ∀ (W : WX) (pn : List (Addr × Obj)) (xe : Value → Shared → Prop), L2N.Takes (X.tr pn xe) W → PassesOwn (model X.prog X.w) X.A X.env xe → PSs (X.tr pn xe) body (tb W pn xe))
    (hsu : ∀ (a : Addr) (oe : Obj) (cls : Value) (d : Option Addr) (pn : List (Addr × Obj)), L2N.Zn cls d oe → (∃ vs, oe.data = .fields vs) → PSs (X.suite a ((a, oe) :: pn)) (b₀ :: suite) (ts a oe cls d pn))
    (hs : X.stack = X.env :: X.outer := by rfl) (hf : X.env.frame = some X.env.locals := by rfl) (hln : X.env.kindOf n = some .local := by rfl) :
    PS X (.Try body [.ExceptHandler (some (.Name x np)) (some n) (b₀ :: suite) pos'] [] [] pos) (tTryAs X.K c i ts Wout tb) :=
  L2N.ps_try_as (tb := fun W D σ H => ∀ pn xe, tb W pn xe D σ H) (ts := tAll ts) hs hf hN hi hln hc tk (fun W pn xe tk po => pss_imp (hb W pn xe tk po) fun D σ H q => q pn xe)
    fun a oe cls d pn hz hfs => pss_imp (hsu a oe cls d pn hz hfs) fun D σ H q => q oe pn
theorem ps_tryOnly (hc : Names X x c) (tk : L2N.Takes X Wout)
    (hb : ∀ (W : WX) (pn : List (Addr × Obj)) (xe : Value → Shared → Prop), L2N.Takes (X.tr pn xe) W → PassesOwn (model X.prog X.w) X.A X.env xe → PSs (X.tr pn xe) body (tb W pn xe))
    (hsu : ∀ (a : Addr) (oe : Obj) (cls : Value) (d : Option Addr) (pn : List (Addr × Obj)), L2N.Zn cls d oe → (∃ vs, oe.data = .fields vs) → PSs (X.suite a ((a, oe) :: pn)) (b₀ :: suite) (ts a oe cls d pn))
    (hs : X.stack = X.env :: X.outer := by rfl) (hf : X.env.frame = some X.env.locals := by rfl) :
    PS X (.Try body [.ExceptHandler (some (.Name x np)) none (b₀ :: suite) pos'] [] [] pos) (tTryOnly X.K c ts Wout tb) :=
  L2N.ps_try_many (tb := fun W D σ H => ∀ pn xe, tb W pn xe D σ H) (l := [(c, tAll ts)]) hs hf tk (fun W pn xe tk po => pss_imp (hb W pn xe tk po) fun D σ H q => q pn xe)
    (.cons hc (fun a oe cls d pn hz hfs => pss_imp (hsu a oe cls d pn hz hfs) fun D σ H q => q oe pn) .nil)
end
end GG

/-! GS: rules for any operands (u_*), and the readings step by step, backwards (st_*). -/
namespace GG
open PySem L2 PyProof.Rows

/-! ### rules for any operands -/
def CM (i j : Int) : Prop := IntMulOk i j
theorem CM.left {i j : Int} (h1 : -(2 ^ 64) < i) (h2 : i < 2 ^ 64) : CM i j := IntMulOk.of_left (intBits_le_64 h1 h2)
theorem CM.right {i j : Int} (h1 : -(2 ^ 64) < j) (h2 : j < 2 ^ 64) : CM i j := IntMulOk.of_right (intBits_le_64 h1 h2)
theorem CM.wide {i j : Int} {a b : Nat} (ha : i.natAbs < 2 ^ a) (hb : j.natAbs < 2 ^ b) (h : a + b ≤ 900000) : CM i j :=
  (wide_mul (a := a + 1) (b := b + 1) (Nat.lt_of_lt_of_le ha (Nat.pow_le_pow_right (by decide) (Nat.le_succ a))) (Nat.lt_of_lt_of_le hb (Nat.pow_le_pow_right (by decide) (Nat.le_succ b))) (Nat.succ_pos _) (Nat.succ_pos _) (by omega)).ok
def CD (_ j : Int) : Prop := j ≠ 0 ∧ j.natAbs.log2 < 9000
def uAdd (K : PySem.W.Frag) : R2 := fun x y H Q => (rI0 fun i j => .int (i + j)) x y H Q ∨ ((∃ i j, x = .str i ∧ y = .str j ∧ i.length + j.length ≤ sizeLine ∧ Q (.str (i ++ j)) H) ∨ (rCat x y H Q ∨ rCatT K x y H Q))
def uMul : R2 := fun x y H Q => (rI CM fun i j => .int (i * j)) x y H Q ∨ rRep x y H Q
def uSub : R2 := rI0 fun i j => .int (i - j)
def uFdiv : R2 := rI CD fun i j => .int (i.fdiv j)
def uMod : R2 := rI (fun _ j => j ≠ 0) fun i j => .int (i.fmod j)
def uPow : R2 := rI CPow fun i j => .int (i ^ j.toNat)
def uEq (K : PySem.W.Frag) : R2 := fun x y H Q => rEq x y H Q ∨ rEqD K x y H Q
def uNe (K : PySem.W.Frag) : R2 := fun x y H Q => rNe x y H Q ∨ rNeD K x y H Q
def uLt : R2 := rI0 fun i j => .bl (decide (i < j))
def uLe : R2 := rI0 fun i j => .bl (decide (i ≤ j))
def uGt : R2 := rI0 fun i j => .bl (decide (j < i))
def uGe : R2 := rI0 fun i j => .bl (decide (j ≤ i))
def uIn (K : PySem.W.Frag) : R2 := rIn K false
def uNotin (K : PySem.W.Frag) : R2 := rIn K true
def uIx (K : PySem.W.Frag) : R2 := rIx K
def uSet : TSet := rSetL
def cInt : List V → Hp → VK → Prop := fun xs H Q => ((∃ i, xs = [.int i] ∧ Q (.int i) H) ∨ ∃ k, xs = [.bl k] ∧ Q (.int (if k then 1 else 0)) H)
def cLen (K : PySem.W.Frag) : List V → Hp → VK → Prop := fun xs H Q => ∃ x n, xs = [x] ∧ LenV K x H n ∧ Q (.int n) H
def cBool : List V → Hp → VK → Prop := fun xs H Q => (∃ i, xs = [.int i] ∧ Q (.bl (i != 0)) H) ∨ ∃ k, xs = [.bl k] ∧ Q (.bl k) H
section
variable {X : Cx}
theorem u_add (K : PySem.W.Frag) (hK : X.K = K := by rfl) : OpR X (binaryOp .Add) (uAdd K) := by subst hK; exact op_add.or (op_add_str.or (op_cat.or op_catT))
theorem u_sub : OpR X (binaryOp .Sub) uSub := op_sub
theorem u_mul : OpR X (binaryOp .Mult) uMul := OpR.or (opI fun _ _ _ _ _ _ _ hc q => mul_int q hc) op_rep
theorem u_fdiv : OpR X (binaryOp .FloorDiv) uFdiv := opI fun _ _ _ _ _ _ _ hc q => floordiv_int hc.1 q (.inl (PyProof.noPylong_of_log2 hc.2))
theorem u_mod : OpR X (binaryOp .Mod) uMod := op_modN
theorem u_pow : OpR X (binaryOp .Pow) uPow := op_pow
theorem u_eq (K : PySem.W.Frag) (hu : X.A.units + 64 < cLine) (hK : X.K = K := by rfl) : OpR X (compareOp .Eq) (uEq K) := by subst hK; exact op_eq.or (op_eqD hu)
theorem u_ne (K : PySem.W.Frag) (hu : X.A.units + 64 < cLine) (hK : X.K = K := by rfl) : OpR X (compareOp .NotEq) (uNe K) := by subst hK; exact op_ne.or (op_neD hu)
theorem u_lt : OpR X (compareOp .Lt) uLt := op_lt
theorem u_le : OpR X (compareOp .LtE) uLe := op_le
theorem u_gt : OpR X (compareOp .Gt) uGt := op_gt
theorem u_ge : OpR X (compareOp .GtE) uGe := op_ge
theorem u_in (K : PySem.W.Frag) (hK : X.K = K := by rfl) : OpR X (compareOp .In) (uIn K) := by subst hK; exact op_in_seq
theorem u_notin (K : PySem.W.Frag) (hK : X.K = K := by rfl) : OpR X (compareOp .NotIn) (uNotin K) := by subst hK; exact op_notIn_seq
theorem u_ix (K : PySem.W.Frag) (hK : X.K = K := by rfl) : IxR X (uIx K) := by subst hK; exact ix_seq
theorem u_set : PSet X uSet := set_list
theorem c_int : CallR X (.type "int") cInt := call_int1
theorem c_len (K : PySem.W.Frag) (hK : X.K = K := by rfl) : CallR X (.builtin "len") (cLen K) := by subst hK; exact call_len
theorem c_bool : CallR X (.type "bool") cBool := call_bool1
section
variable (K : PySem.W.Frag) {e o value tg : Expr} {f : Str} {pos pos' : Pos} {ta tv : TE} {T : String} {as : TA} {r : V → List V → Hp → VK → Prop} {st : Stmt} {n : Nat} {gs : TGs}
theorem pe_fldK (h : PE X e (tFld X.K ta f)) (hK : X.K = K := by rfl) : PE X e (tFld K ta f) := by subst hK; exact h
theorem ps_fldK (h : PS X st (sFld X.K ta tv f)) (hK : X.K = K := by rfl) : PS X st (sFld K ta tv f) := by subst hK; exact h
theorem pe_bmK (h : PE X e (tBM X.K T r ta as)) (hK : X.K = K := by rfl) : PE X e (tBM K T r ta as) := by subst hK; exact h
theorem pe_bm0K (h : PE X e (tBM0 X.K T r ta)) (hK : X.K = K := by rfl) : PE X e (tBM0 K T r ta) := by subst hK; exact h
theorem pi_listK (h : PI X tg e (iList X.K ta)) (hK : X.K = K := by rfl) : PI X tg e (iList K ta) := by subst hK; exact h
theorem pi_tupK (h : PI X tg e (iTup X.K ta)) (hK : X.K = K := by rfl) : PI X tg e (iTup K ta) := by subst hK; exact h
theorem pg_tupK (h : PG X e (gTup X.K n gs)) (hK : X.K = K := by rfl) : PG X e (gTup K n gs) := by subst hK; exact h
theorem pe_lcV (vs : List Nat) {ws : List Nat} {wi : TI} {g : TG} {tt : TT} {te : TE} (h : PE X e (tLc wi g tt te ws)) (hv : ws = vs := by rfl) : PE X e (tLc wi g tt te vs) := by subst hv; exact h
theorem ps_lcV (vs : List Nat) {ws : List Nat} {wi : TI} {g : TG} {tt : TT} {te : TE} (h : PS X st (tAsg (tLc wi g tt te ws) (gName n))) (hv : ws = vs := by rfl) : PS X st (tAsg (tLc wi g tt te vs) (gName n)) := by subst hv; exact h
theorem c_isi (hK : X.K = K := by rfl) : CallR X (.builtin "isinstance") (rIsi K) := by subst hK; exact call_isi
end
theorem m_append : MtR X "list.append" rAppend := mt_append
theorem m_popAt : MtR X "list.pop" rPopAt := mt_popAt
theorem m_pop : MtR X "list.pop" rPop := mt_pop
end

/-! ### heaps: Ext (grown), But l (grown, the object at l changed) -/
def Ext (H H' : Hp) : Prop := ∀ a o, H a = some o → H' a = some o
def But (l : Addr) (H H' : Hp) : Prop := ∀ a o, a ≠ l → H a = some o → H' a = some o
theorem Ext.rfl {H : Hp} : Ext H H := fun _ _ h => h
theorem Ext.trans {H H1 H2 : Hp} (a : Ext H H1) (b : Ext H1 H2) : Ext H H2 := fun x o h => b x o (a x o h)
theorem Ext.look {H H' : Hp} {a : Addr} {o : HO} (e : Ext H H') (h : H a = some o) : H' a = some o := e a o h
theorem Ext.new {H : Hp} {p : Addr} {o : HO} (h : H p = none) : Ext H (upd H p o) := fun a u e => by rw [upd_ne (ne_of_none e h)]; exact e
theorem Ext.free {H H' : Hp} (e : Ext H H') {l : Addr} (h : H' l = Option.none) : H l = Option.none := Same.free e h
theorem Ext.but {H H' : Hp} {l : Addr} (e : Ext H H') : But l H H' := fun a o _ h => e a o h
theorem But.rfl {H : Hp} {l : Addr} : But l H H := fun _ _ _ h => h
theorem But.trans {H H1 H2 : Hp} {l : Addr} (a : But l H H1) (b : But l H1 H2) : But l H H2 := fun x o n h => b x o n (a x o n h)
theorem But.look {H H' : Hp} {l a : Addr} {o : HO} (e : But l H H') (n : a ≠ l) (h : H a = some o) : H' a = some o := e a o n h
/-- .. where the two objects are of unlike kinds -/
theorem But.lookK {H H' : Hp} {l a : Addr} {o u : HO} (e : But l H H') (hl : H l = some u) (h : H a = some o) (n : o ≠ u) : H' a = some o := e a o (ne_of h hl n) h
theorem But.upd {H : Hp} {l : Addr} {o : HO} : But l H (L2.upd H l o) := fun a u n e => by rw [upd_ne n]; exact e
/-- what is new behind l's change -/
theorem But.ext {H0 H H' : Hp} {l : Addr} (e : But l H H') (e0 : Ext H0 H) (h : H0 l = none) : Ext H0 H' := fun a o q => e a o (ne_of_none q h) (e0 a o q)
theorem But.exts {H H1 H2 : Hp} {l : Addr} (a : But l H H1) (b : Ext H1 H2) : But l H H2 := a.trans b.but
theorem Ext.buts {H H1 H2 : Hp} {l : Addr} (a : Ext H H1) (b : But l H1 H2) : But l H H2 := a.but.trans b
theorem Ext.sq {K : PySem.W.Frag} {H H' : Hp} {a : Addr} {xs : List V} (e : Ext H H') (h : SqL K H a xs) : SqL K H' a xs := Same.seq e h

/-! ### statements, run with their four ends -/
def Run (t : TS) (nx : L2.St → Hp → Prop) (rt : VK) (bk ct : L2.St → Hp → Prop) (σ : L2.St) (H : Hp) : Prop := t ⟨nx, rt, bk, ct⟩ σ H
abbrev NoE : L2.St → Hp → Prop := fun _ _ => False
section
variable {K : PySem.W.Frag} {nx bk ct : L2.St → Hp → Prop} {rt : VK} {σ : L2.St} {H : Hp} {t u : TS} {te ta tb tc : TE} {tt tu : TT} {as : TA} {Q : VK} {QB : Bool → Hp → Prop} {QA : List V → Hp → Prop} {v x y : V} {E : L2.St → XK} {sp : Sp} {D : Ends}
theorem run_of (h : Run t D.nx D.rt D.bk D.ct σ H) : t D σ H := h
theorem run_start {σ' : L2.St} (e : σ' = σ) (h : Run t (fun _ H' => Q .non H') Q NoE NoE σ H) : t { nx := fun _ H' => Q .non H', rt := Q } σ' H := by
  subst e
  exact h
theorem run_seq (h : Run t (fun σ' H' => Run u nx rt bk ct σ' H') rt bk ct σ H) : Run (tSeq t u) nx rt bk ct σ H := h
theorem run_next (h : nx σ H) : Run tNext nx rt bk ct σ H := h
theorem run_asg {i : Nat} (h : te σ H fun x H1 => nx (σ.set i (some x)) H1) : Run (tAsg te (gName i)) nx rt bk ct σ H := h
theorem run_asgG {g : TG} (h : te σ H fun x H1 => g x σ H1 nx) : Run (tAsg te g) nx rt bk ct σ H := h
theorem run_drop (h : te σ H fun _ H1 => nx σ H1) : Run (tDrop te) nx rt bk ct σ H := h
theorem run_ret (h : te σ H rt) : Run (tRet te) nx rt bk ct σ H := h
theorem run_retN (h : rt .non H) : Run tRetN nx rt bk ct σ H := h
theorem run_break (h : bk σ H) : Run tBreak nx rt bk ct σ H := h
theorem run_cont (h : ct σ H) : Run tCont nx rt bk ct σ H := h
/-- the two ways of a test -/
def Br (b : Bool) (A B : Prop) : Prop := if b = true then A else B
theorem run_ifS (h : tt σ H fun b H1 => Br b (Run t nx rt bk ct σ H1) (Run u nx rt bk ct σ H1)) : Run (tIfS tt t u) nx rt bk ct σ H := h
theorem br_t {A B : Prop} (h : A) : Br true A B := iteT h
theorem br_f {A B : Prop} (h : B) : Br false A B := iteF h
theorem br_d {p A B : Prop} [Decidable p] (h1 : p → A) (h2 : ¬ p → B) : Br (decide p) A B := by
  by_cases h : p
  · rw [decide_eq_true h]; exact br_t (h1 h)
  · rw [decide_eq_false h]; exact br_f (h2 h)
theorem br_nd {p A B : Prop} [Decidable p] (h1 : ¬ p → A) (h2 : p → B) : Br (!decide p) A B := by
  by_cases h : p
  · rw [decide_eq_true h]; exact br_f (h2 h)
  · rw [decide_eq_false h]; exact br_t (h1 h)
theorem br_b {b : Bool} {A B : Prop} (h1 : b = true → A) (h2 : b = false → B) : Br b A B := by
  cases b with
  | true => exact br_t (h1 rfl)
  | false => exact br_f (h2 rfl)
theorem br_not {b : Bool} {A B : Prop} (h : Br b B A) : Br (!b) A B := by
  cases b with
  | true => exact h
  | false => exact h
/-! ### expressions -/
theorem st_var {i : Nat} (h : σ[i]? = some (some v)) (q : Q v H) : tVar i σ H Q := ⟨v, h, q⟩
theorem st_c (q : Q v H) : tC v σ H Q := q
theorem st_op {r : R2} (h : ta σ H fun x H1 => tb σ H1 fun y H2 => r x y H2 Q) : tOp r ta tb σ H Q := h
theorem st_opS {r : R2S} (h : ta σ H fun x H1 => tb σ H1 fun y H2 => r σ x y H2 Q) : tOpS r ta tb σ H Q := h
theorem st_un {r : V → Hp → VK → Prop} (h : ta σ H fun x H1 => r x H1 Q) : tUn r ta σ H Q := h
theorem st_unS {r : L2.St → V → Hp → VK → Prop} (h : ta σ H fun x H1 => r σ x H1 Q) : tUnS r ta σ H Q := h
theorem st_nil (h : QA [] H) : tNil σ H QA := h
theorem st_cons {tr : TA} (h : ta σ H fun x H1 => tr σ H1 fun xs H2 => QA (x :: xs) H2) : tCons ta tr σ H QA := h
theorem st_cb {r : List V → Hp → VK → Prop} (h : as σ H fun vs H1 => r vs H1 Q) : tCB r as σ H Q := h
theorem st_cbS {r : L2.St → List V → Hp → VK → Prop} (h : as σ H fun vs H1 => r σ vs H1 Q) : tCBS r as σ H Q := h
theorem st_fn {dvs : List V} (h : as σ H fun vs H1 => sp (vs ++ dvs) H1 Q (E σ)) : tCallSD sp dvs E as σ H Q := h
/-- a new tuple, a new list -/
def rTup (xs : List V) (H : Hp) (Q : VK) : Prop := xs.length ≤ sizeLine ∧ ∀ p, H p = none → Q (.ref p) (upd H p (.tup xs))
def rLst (xs : List V) (H : Hp) (Q : VK) : Prop := xs.length ≤ sizeLine ∧ ∀ p, H p = none → Q (.ref p) (upd H p (.lst xs))
theorem st_tup (h : as σ H fun xs H1 => rTup xs H1 Q) : tTup as σ H Q := h
theorem st_lst (h : as σ H fun xs H1 => rLst xs H1 Q) : tLst as σ H Q := h
theorem r_tup {xs : List V} (hz : xs.length ≤ 1000) (h : ∀ p H2, H p = none → Ext H H2 → H2 p = some (.tup xs) → Q (.ref p) H2) : rTup xs H Q := ⟨Nat.le_trans hz (by decide), fun p hp => h p _ hp (Ext.new hp) upd_same⟩
theorem r_lst {xs : List V} (hz : xs.length ≤ 1000) (h : ∀ p H2, H p = none → Ext H H2 → H2 p = some (.lst xs) → Q (.ref p) H2) : rLst xs H Q := ⟨Nat.le_trans hz (by decide), fun p hp => h p _ hp (Ext.new hp) upd_same⟩
/-- e.f -/
def rFld (K : PySem.W.Frag) (f : Str) (x : V) (H : Hp) (Q : VK) : Prop := ∃ a C dx fs v, x = .ref a ∧ H a = some (.ins C dx fs) ∧ Cls K C ∧ NoAttr K C f ∧ fs.lookup f = some v ∧ Q v H
theorem st_fld {f : Str} (h : ta σ H fun x H1 => rFld K f x H1 Q) : tFld K ta f σ H Q := h
theorem r_fld {f : Str} {a C dx : Addr} {fs : List (Str × V)} (h : H a = some (.ins C dx fs)) (c : Cls K C) (n : NoAttr K C f) (l : fs.lookup f = some v) (q : Q v H) : rFld K f (.ref a) H Q := ⟨a, C, dx, fs, v, rfl, h, c, n, l, q⟩
/-- e.f = v -/
def rPutF (K : PySem.W.Frag) (f : Str) (x y : V) (H : Hp) (k : Hp → Prop) : Prop := ∃ a C dx fs, x = .ref a ∧ H a = some (.ins C dx fs) ∧ Cls K C ∧ NoAttr K C f ∧ fs.length < 1000 ∧ k (upd H a (.ins C dx (putF f y fs)))
theorem run_fld {f : Str} (h : tb σ H fun y H1 => ta σ H1 fun x H2 => rPutF K f x y H2 (nx σ)) : Run (sFld K ta tb f) nx rt bk ct σ H := h
theorem r_putF {f : Str} {a C dx : Addr} {fs : List (Str × V)} {k : Hp → Prop} (h : H a = some (.ins C dx fs)) (c : Cls K C) (n : NoAttr K C f) (l : fs.length < 1000) (q : k (upd H a (.ins C dx (putF f y fs)))) : rPutF K f (.ref a) y H k := ⟨a, C, dx, fs, rfl, h, c, n, l, q⟩
/-- a test -/
def rTest (x : V) (H : Hp) (QB : Bool → Hp → Prop) : Prop := ∃ k, x = .bl k ∧ QB k H
theorem st_test (h : te σ H fun x H' => rTest x H' QB) : tTest te σ H QB := h
theorem r_test {k : Bool} (h : QB k H) : rTest (.bl k) H QB := ⟨k, rfl, h⟩
def rTru (K : PySem.W.Frag) (x : V) (H : Hp) (QB : Bool → Hp → Prop) : Prop := ∃ k, TruV K x H k ∧ QB k H
theorem st_tru (h : te σ H fun x H' => rTru K x H' QB) : (fun (σ : L2.St) H (Q : Bool → Hp → Prop) => te σ H fun x H' => ∃ k, TruV K x H' k ∧ Q k H') σ H QB := h
theorem r_truB {k : Bool} (h : QB k H) : rTru K (.bl k) H QB := ⟨k, rfl, h⟩
theorem st_not (h : tt σ H fun c H1 => QB (!c) H1) : tNot tt σ H QB := h
theorem st_and (h : tt σ H fun c H1 => Br c (tu σ H1 QB) (QB false H1)) : tAnd tt tu σ H QB := h
theorem st_or (h : tt σ H fun c H1 => Br c (QB true H1) (tu σ H1 QB)) : tOr tt tu σ H QB := h
def rAndV (tb : TE) (σ : L2.St) (x : V) (H : Hp) (Q : VK) : Prop := ∃ c, x = .bl c ∧ if c = true then tb σ H Q else Q (.bl false) H
def rOrV (tb : TE) (σ : L2.St) (x : V) (H : Hp) (Q : VK) : Prop := ∃ c, x = .bl c ∧ if c = true then Q (.bl true) H else tb σ H Q
theorem st_andV (h : ta σ H fun x H1 => rAndV tb σ x H1 Q) : tAndV ta tb σ H Q := h
theorem st_orV (h : ta σ H fun x H1 => rOrV tb σ x H1 Q) : tOrV ta tb σ H Q := h
theorem r_andV {c : Bool} (h : Br c (tb σ H Q) (Q (.bl false) H)) : rAndV tb σ (.bl c) H Q := ⟨c, rfl, h⟩
theorem r_orV {c : Bool} (h : Br c (Q (.bl true) H) (tb σ H Q)) : rOrV tb σ (.bl c) H Q := ⟨c, rfl, h⟩
def rNotV (x : V) (H : Hp) (Q : VK) : Prop := ∃ c, x = .bl c ∧ Q (.bl (!c)) H
theorem st_notV (h : ta σ H fun x H1 => rNotV x H1 Q) : tNotV ta σ H Q := h
theorem r_notV {c : Bool} (h : Q (.bl (!c)) H) : rNotV (.bl c) H Q := ⟨c, rfl, h⟩
theorem st_ifE (h : tt σ H fun c H1 => Br c (ta σ H1 Q) (tb σ H1 Q)) : tIf tt ta tb σ H Q := h
def rChain (r' : R2) (tc : TE) (σ : L2.St) (y z : V) (H : Hp) (Q : VK) : Prop := ∃ k, z = .bl k ∧ (if k = true then tc σ H fun w' H4 => r' y w' H4 Q else Q (.bl false) H)
theorem st_chain {r r' : R2} (h : ta σ H fun x H1 => tb σ H1 fun y H2 => r x y H2 fun z H3 => rChain r' tc σ y z H3 Q) : tChain r r' ta tb tc σ H Q := h
theorem r_chain {r' : R2} {k : Bool} (h : Br k (tc σ H fun w' H4 => r' y w' H4 Q) (Q (.bl false) H)) : rChain r' tc σ y (.bl k) H Q := ⟨k, rfl, h⟩
/-! ### the operators on values -/
variable {i j : Int}
theorem v_add (q : Q (.int (i + j)) H) : uAdd K (.int i) (.int j) H Q := .inl ⟨i, j, rfl, rfl, q⟩
theorem v_addS {i j : Str} (hz : i.length + j.length ≤ 1000000) (q : Q (.str (i ++ j)) H) : uAdd K (.str i) (.str j) H Q := .inr (.inl ⟨i, j, rfl, rfl, Nat.le_trans hz (by decide), q⟩)
theorem v_addL {a b : Addr} {xs ys : List V} (ha : H a = some (.lst xs)) (hb : H b = some (.lst ys)) (hz : xs.length + ys.length ≤ 1000000) (q : ∀ p H2, H p = none → Ext H H2 → H2 p = some (.lst (xs ++ ys)) → Q (.ref p) H2) : uAdd K (.ref a) (.ref b) H Q :=
  .inr (.inr (.inl ⟨a, b, xs, ys, rfl, rfl, ha, hb, Nat.le_trans hz (by decide), fun p hp => q p _ hp (Ext.new hp) upd_same⟩))
theorem v_sub (q : Q (.int (i - j)) H) : uSub (.int i) (.int j) H Q := ⟨i, j, rfl, rfl, q⟩
theorem v_mul (hc : CM i j) (q : Q (.int (i * j)) H) : uMul (.int i) (.int j) H Q := .inl ⟨i, j, rfl, rfl, hc, q⟩
theorem v_fdiv (hc : CD i j) (q : Q (.int (i.fdiv j)) H) : uFdiv (.int i) (.int j) H Q := ⟨i, j, rfl, rfl, hc, q⟩
theorem v_mod (hc : 0 < j) (q : Q (.int (i % j)) H) : uMod (.int i) (.int j) H Q := ⟨i, j, rfl, rfl, by omega, by show Q (.int (i.fmod j)) H; rw [Int.fmod_eq_emod_of_nonneg i (by omega)]; exact q⟩
theorem v_modN (hc : j ≠ 0) (q : Q (.int (i.fmod j)) H) : uMod (.int i) (.int j) H Q := ⟨i, j, rfl, rfl, hc, q⟩
theorem v_pow (hc : CPow i j) (q : Q (.int (i ^ j.toNat)) H) : uPow (.int i) (.int j) H Q := ⟨i, j, rfl, rfl, hc, q⟩
theorem v_lt (q : Q (.bl (decide (i < j))) H) : uLt (.int i) (.int j) H Q := ⟨i, j, rfl, rfl, q⟩
theorem v_le (q : Q (.bl (decide (i ≤ j))) H) : uLe (.int i) (.int j) H Q := ⟨i, j, rfl, rfl, q⟩
theorem v_gt (q : Q (.bl (decide (j < i))) H) : uGt (.int i) (.int j) H Q := ⟨i, j, rfl, rfl, q⟩
theorem v_ge (q : Q (.bl (decide (j ≤ i))) H) : uGe (.int i) (.int j) H Q := ⟨i, j, rfl, rfl, q⟩
theorem dec_congr {p q : Prop} [Decidable p] [Decidable q] (h : p ↔ q) : decide p = decide q := by
  by_cases c : p
  · rw [decide_eq_true c, decide_eq_true (h.mp c)]
  · rw [decide_eq_false c, decide_eq_false (fun z => c (h.mpr z))]
theorem v_eq (q : Q (.bl (decide (i = j))) H) : uEq K (.int i) (.int j) H Q := .inl ⟨rfl, by rw [dec_congr (q := i = j) ⟨fun h => V.int.inj h, fun h => by rw [h]⟩]; exact q⟩
theorem v_ne (q : Q (.bl (!decide (i = j))) H) : uNe K (.int i) (.int j) H Q := .inl ⟨rfl, by rw [dec_congr (q := i = j) ⟨fun h => V.int.inj h, fun h => by rw [h]⟩]; exact q⟩
theorem v_eqB {i j : Bool} (q : Q (.bl (decide (i = j))) H) : uEq K (.bl i) (.bl j) H Q := .inl ⟨rfl, by rw [dec_congr (q := i = j) ⟨fun h => V.bl.inj h, fun h => by rw [h]⟩]; exact q⟩
theorem v_neB {i j : Bool} (q : Q (.bl (!decide (i = j))) H) : uNe K (.bl i) (.bl j) H Q := .inl ⟨rfl, by rw [dec_congr (q := i = j) ⟨fun h => V.bl.inj h, fun h => by rw [h]⟩]; exact q⟩
theorem v_eqS {i j : Str} (q : Q (.bl (decide (i = j))) H) : uEq K (.str i) (.str j) H Q := .inl ⟨rfl, by rw [dec_congr (q := i = j) ⟨fun h => V.str.inj h, fun h => by rw [h]⟩]; exact q⟩
theorem v_neS {i j : Str} (q : Q (.bl (!decide (i = j))) H) : uNe K (.str i) (.str j) H Q := .inl ⟨rfl, by rw [dec_congr (q := i = j) ⟨fun h => V.str.inj h, fun h => by rw [h]⟩]; exact q⟩
/-- two tuples of two ints -/
theorem v_eqT2 {a b : Addr} {i j k l : Int} (ha : H a = some (.tup [.int i, .int j])) (hb : H b = some (.tup [.int k, .int l])) (q : Q (.bl (decide (i = k ∧ j = l))) H) : uEq K (.ref a) (.ref b) H Q := by
  refine .inr ⟨.tuple [.int i, .int j], .tuple [.int k, .int l], .tup (SqT.of ha) (.cons (.int _) (.cons (.int _) .nil)), .tup (SqT.of hb) (.cons (.int _) (.cons (.int _) .nil)), rfl, rfl, ?_⟩
  have e : PyData.eqv (.tuple [.int i, .int j]) (.tuple [.int k, .int l]) = decide (i = k ∧ j = l) := by
    rw [Bool.eq_iff_iff]
    simp [PyData.eqv, PyData.eqvAll]
  rw [e]
  exact q
theorem v_ixL {a : Addr} {xs : List V} {z : Int} (ha : H a = some (.lst xs)) (hz : 0 ≤ z) (h : xs[z.toNat]? = some v) (q : Q v H) : uIx K (.ref a) (.int z) H Q :=
  .inl ⟨a, xs, z, v, rfl, rfl, SqL.of ha, at_of (Int.toNat_of_nonneg hz).symm h, q⟩
theorem v_ixT {a : Addr} {xs : List V} {z : Int} (ha : H a = some (.tup xs)) (hz : 0 ≤ z) (h : xs[z.toNat]? = some v) (q : Q v H) : uIx K (.ref a) (.int z) H Q :=
  .inr (.inl ⟨a, xs, z, v, rfl, rfl, SqT.of ha, at_of (Int.toNat_of_nonneg hz).symm h, q⟩)
theorem v_neg (q : Q (.int (-i)) H) : (rU fun i => .int (-i)) (.int i) H Q := ⟨i, rfl, q⟩
theorem v_int (q : Q (.int i) H) : cInt [.int i] H Q := .inl ⟨i, rfl, q⟩
theorem v_intB {b : Bool} (q : Q (.int (if b then 1 else 0)) H) : cInt [.bl b] H Q := .inr ⟨b, rfl, q⟩
theorem v_boolB {b : Bool} (q : Q (.bl b) H) : cBool [.bl b] H Q := .inr ⟨b, rfl, q⟩
theorem v_lenL {a : Addr} {xs : List V} (ha : H a = some (.lst xs)) (q : Q (.int (xs.length : Int)) H) : cLen K [.ref a] H Q := ⟨.ref a, xs.length, rfl, .inl ⟨xs, SqL.of ha, rfl⟩, q⟩
theorem v_lenT {a : Addr} {xs : List V} (ha : H a = some (.tup xs)) (q : Q (.int (xs.length : Int)) H) : cLen K [.ref a] H Q := ⟨.ref a, xs.length, rfl, .inr ⟨xs, SqT.of ha, rfl⟩, q⟩
/-- xs[n] = v -/
theorem st_sub {T : TSet} {k : L2.St → Hp → Prop} (h : ta σ H fun o H1 => tb σ H1 fun i H2 => T o i v H2 fun H3 => k σ H3) : gSub ta tb T v σ H k := h
theorem v_set {a : Addr} {xs : List V} {z : Int} {k : Hp → Prop} (ha : H a = some (.lst xs)) (hz : 0 ≤ z) (h : z.toNat < xs.length) (q : ∀ H2, But a H H2 → H2 a = some (.lst (xs.set z.toNat v)) → k H2) : uSet (.ref a) (.int z) v H k :=
  ⟨a, xs, z, z.toNat, rfl, rfl, ha, by unfold ixN; rw [if_pos hz, if_pos (by omega)], q _ But.upd upd_same⟩
/-- methods of lists -/
theorem st_bm {T : String} {r : V → List V → Hp → VK → Prop} (h : ta σ H fun x H1 => tyV K T x H1 ∧ as σ H1 fun xs H2 => r x xs H2 Q) : tBM K T r ta as σ H Q := h
theorem st_bm0 {T : String} {r : V → List V → Hp → VK → Prop} (h : ta σ H fun x H1 => tyV K T x H1 ∧ r x [] H1 Q) : tBM0 K T r ta σ H Q := h
theorem ty_list {a : Addr} {xs : List V} (ha : H a = some (.lst xs)) : tyV K "list" (.ref a) H := .inl ⟨rfl, xs, SqL.of ha⟩
theorem v_append {a : Addr} {xs : List V} (ha : H a = some (.lst xs)) (hz : xs.length < 1000000) (q : ∀ H2, But a H H2 → H2 a = some (.lst (xs ++ [v])) → Q .non H2) : rAppend (.ref a) [v] H Q :=
  ⟨a, xs, v, rfl, rfl, ha, Nat.lt_of_lt_of_le hz (by decide), q _ But.upd upd_same⟩
theorem v_popAt {a : Addr} {xs : List V} {z : Int} (ha : H a = some (.lst xs)) (hz : 0 ≤ z) (hn : z < 1000000) (h : xs[z.toNat]? = some v) (q : ∀ H2, But a H H2 → H2 a = some (.lst (xs.eraseIdx z.toNat)) → Q v H2) : rPopAt (.ref a) [.int z] H Q :=
  ⟨a, xs, z, z.toNat, v, rfl, rfl, ha, by omega, by omega, by
    have w := (List.getElem?_eq_some_iff.mp h).1
    show (if (decide ((0 : Int) ≤ (if z < 0 then z + xs.length else z)) && decide ((if z < 0 then z + xs.length else z) < xs.length)) = true then some (if z < 0 then z + xs.length else z).toNat else none) = some z.toNat
    rw [if_neg (show ¬ z < 0 by omega), if_pos (by simp; omega)], h, q _ But.upd upd_same⟩
/-- what a change leaves -/
theorem chg {a : Addr} {o : HO} {k : Hp → Prop} (h : ∀ H2, But a H H2 → H2 a = some o → k H2) : k (upd H a o) := h _ But.upd upd_same
end
end GG

/-! GT: loops, comprehensions, makings, tries, isinstance: the readings step by step. -/
namespace GG
open PySem L2 PyProof.Rows

/-! ### more rules for any operands -/
def cMin2 : List V → Hp → VK → Prop := fun xs H Q => ∃ i j, xs = [.int i, .int j] ∧ Q (.int (if j < i then j else i)) H
def cMax2 : List V → Hp → VK → Prop := fun xs H Q => ∃ i j, xs = [.int i, .int j] ∧ Q (.int (if j > i then j else i)) H
def cAbs : List V → Hp → VK → Prop := fun xs H Q => ∃ i, xs = [.int i] ∧ Q (.int (if i < 0 then -i else i)) H
section
variable {X : Cx}
theorem c_min2 (hc : X.calm = true) : CallR X (.builtin "min") cMin2 := call_min2 hc
theorem c_max2 (hc : X.calm = true) : CallR X (.builtin "max") cMax2 := call_max2 hc
theorem c_min1 (K : PySem.W.Frag) (hc : X.calm = true) (hK : X.K = K := by rfl) : CallR X (.builtin "min") (rMin K) := by subst hK; exact cr_min hc
theorem c_max1 (K : PySem.W.Frag) (hc : X.calm = true) (hK : X.K = K := by rfl) : CallR X (.builtin "max") (rMax K) := by subst hK; exact cr_max hc
theorem c_abs : CallR X (.builtin "abs") cAbs := call_abs
end

theorem cd_small {i j : Int} (h0 : 0 < j) (h1 : j ≤ 1000000) : CD i j := ⟨by omega, Nat.lt_trans (PySem.Flt.log2_lt_of (k := 20) (by decide) (by omega)) (by decide)⟩
theorem kit_self {K : PySem.W.Frag} {C : Addr} : PySem.W.kitOne K (.ref C) (.ref C) = some true := by
  unfold PySem.W.kitOne
  rw [if_pos (beq_self_eq_true _)]
theorem not_first {K : PySem.W.Frag} {C : Addr} {t : Value} (h : PySem.W.subIn K t (.ref C) = some false) : PySem.W.notFirst K C t = true := by
  unfold PySem.W.notFirst
  rw [h]
  simp
theorem right_mk {K : PySem.W.Frag} {C : Addr} {T nm : String} {d r : Str} {fo ro rc : Option Value} (hd : PySem.dunder nm = d) (hr : dunderR nm = r) (r1 : PySem.W.findIn K (.type T) d = some fo) (r2 : PySem.W.findIn K (.type T) r = some ro) (r3 : PySem.W.findIn K (.ref C) r = some rc)
    (r3' : rc = none ∨ ∃ g : Addr, rc = some (.ref g)) (r4 : PySem.W.subIn K (.type T) (.ref C) = some false) : RightT K C T nm := by
  subst hd
  subst hr
  exact ⟨⟨_, r1⟩, ⟨_, r2⟩, ⟨_, r3, r3'⟩, r4⟩
/-- what the top has written of an own class x, at C -/
structure OwnC (K : PySem.W.Frag) (mg : Str → Option Value) (x : Str) (C : Addr) : Prop where
  g : mg x = some (.ref C)
  cl : Cls K C
  sf : PySem.W.selfFirst K C = true
  ha : PySem.W.findIn K (.ref C) "__class__" = some (some (.builtin "object.__class__"))
  hn : PySem.W.specialIn K (.builtin "object.__class__") "__get__" = some (some (.builtin "getset_descriptor.__get__"))
  ht : PySem.W.takesIn K (.builtin "object.__class__") = some true
  hm : PySem.W.mroIn K C (.type "object") = some true
  ki : PySem.W.kitOne K (.ref C) (.ref C) = some true
theorem OwnC.ty {K : PySem.W.Frag} {mg : Str → Option Value} {x : Str} {C a dx : Addr} {H : Hp} {fs : List (Str × V)} (O : OwnC K mg x C) (e : H a = some (.ins C dx fs)) : TyX K H (.ref a) (.ref C) := .base (.ins e O.cl O.ha O.hn O.ht O.hm)

/-- a continuation at slots with one set -/
def Kont (nx : L2.St → Hp → Prop) (σ : L2.St) (n : Nat) (v : Option V) (H : Hp) : Prop := nx (σ.set n v) H
/-- a value's truth, as a test -/
def tTru (K : PySem.W.Frag) (te : TE) : TT := fun σ H Q => te σ H fun x H' => rTru K x H' Q
theorem pt_tru (K : PySem.W.Frag) {X : Cx} {a : Expr} {ta : TE} (ha : PE X a ta) (he : ∀ whole, isTrue a X.env whole = (do let v ← whole; standAt a.pos; holding [v] (truthy v))) (hK : X.K = K := by rfl) : PT X a (tTru K ta) := by subst hK; exact pt_truth ha he
section
variable {K : PySem.W.Frag} {mg : Str → Option Value} {nx bk ct : L2.St → Hp → Prop} {rt : VK} {σ : L2.St} {H : Hp} {t u : TS} {te ta tb tc : TE} {tt tu : TT} {as : TA} {Q : VK} {QB : Bool → Hp → Prop} {QA : List V → Hp → Prop} {v x y : V} {E : L2.St → XK} {sp : Sp} {i j : Int}
theorem v_min2 (q : Q (.int (min i j)) H) : cMin2 [.int i, .int j] H Q := ⟨i, j, rfl, by rw [show (if j < i then j else i) = min i j by split <;> omega]; exact q⟩
theorem v_max2 (q : Q (.int (max i j)) H) : cMax2 [.int i, .int j] H Q := ⟨i, j, rfl, by rw [show (if j > i then j else i) = max i j by split <;> omega]; exact q⟩
theorem v_abs (q : Q (.int (if i < 0 then -i else i)) H) : cAbs [.int i] H Q := ⟨i, rfl, q⟩
theorem v_min1 {a : Addr} {ns : List Int} (ha : H a = some (.lst (ns.map V.int))) (h : 0 < ns.length) (q : ∀ m, m ∈ ns → (∀ y, y ∈ ns → m ≤ y) → Q (.int m) H) : rMin K [.ref a] H Q := ⟨a, ns, rfl, SqL.of ha, h, q⟩
theorem v_max1 {a : Addr} {ns : List Int} (ha : H a = some (.lst (ns.map V.int))) (h : 0 < ns.length) (q : ∀ m, m ∈ ns → (∀ y, y ∈ ns → y ≤ m) → Q (.int m) H) : rMax K [.ref a] H Q := ⟨a, ns, rfl, SqL.of ha, h, q⟩
/-! ### isinstance -/
theorem v_isII (q : Q (.bl true) H) : rIsi K [.int i, .ty "int"] H Q := ⟨.int i, .ty "int", .type "int", .type "int", true, rfl, .ty _, .base (.int i), kit_ty (by decide +kernel), q⟩
theorem v_isIB (q : Q (.bl false) H) : rIsi K [.int i, .ty "bool"] H Q := ⟨.int i, .ty "bool", .type "int", .type "bool", false, rfl, .ty _, .base (.int i), kit_ty (by decide +kernel), q⟩
theorem v_isBB {b : Bool} (q : Q (.bl true) H) : rIsi K [.bl b, .ty "bool"] H Q := ⟨.bl b, .ty "bool", .type "bool", .type "bool", true, rfl, .ty _, .base (.bl b), kit_ty (by decide +kernel), q⟩
theorem v_isO {n : Str} {C a dx : Addr} {fs : List (Str × V)} (e : H a = some (.ins C dx fs)) (O : OwnC K mg n C) (q : Q (.bl true) H) : rIsi K [.ref a, .ref C] H Q := ⟨.ref a, .ref C, .ref C, .ref C, true, rfl, .own C, O.ty e, O.ki, q⟩
theorem v_isX {n : Str} {a C fI dd : Addr} {v c : V} {cv : Value} {b : Bool} (T : PySem.GErr.ErrTxt K mg n C fI) (hd : H dd = some (.xd (subj v))) (k : PySem.W.kitOne K (.ref C) cv = some b) (hc : ClsV c cv) (q : Q (.bl b) H) : rIsX K mg a (.ref C) (some dd) [.ref a, c] H Q :=
  ⟨n, C, fI, dd, v, c, cv, b, rfl, rfl, T, rfl, hd, hc, k, q⟩
/-! ### e.subject -/
def rSubj (K : PySem.W.Frag) (mg : Str → Option Value) (a : Addr) (cls : Value) (d : Option Addr) (x : V) (H : Hp) (Q : VK) : Prop := x = .ref a ∧ ∃ (n : Str) (C fI dd : Addr) (v : V), cls = .ref C ∧ PySem.GErr.ErrTxt K mg n C fI ∧ d = some dd ∧ H dd = some (.xd (subj v)) ∧ Q v H
theorem st_subj {a : Addr} {cls : Value} {d : Option Addr} (h : te σ H fun x H1 => rSubj K mg a cls d x H1 Q) : tSubj K mg a cls d te σ H Q := h
theorem v_subj {n : Str} {a C fI dd : Addr} (T : PySem.GErr.ErrTxt K mg n C fI) (hd : H dd = some (.xd (subj v))) (q : Q v H) : rSubj K mg a (.ref C) (some dd) (.ref a) H Q := ⟨rfl, n, C, fI, dd, v, rfl, T, rfl, hd, q⟩
/-! ### raise -/
def rRaise (C : Addr) (W : WX) (σ : L2.St) (vs : List V) (H : Hp) : Prop := ∃ v, vs = [v] ∧ ∀ d, H d = none → W (.ref C) (some d) σ (upd H d (.xd (subj v)))
theorem run_raise {C : Addr} {W : WX} (h : as σ H fun vs H1 => rRaise C W σ vs H1) : Run (tRaiseErr C W as) nx rt bk ct σ H := h
theorem v_raise {C : Addr} {W : WX} (h : ∀ d H2, H d = none → Ext H H2 → H2 d = some (.xd (subj v)) → W (.ref C) (some d) σ H2) : rRaise C W σ [v] H := ⟨v, rfl, fun d hd => h d _ hd (Ext.new hd) upd_same⟩
/-! ### try .. except C as n -/
theorem run_tryAs {K : PySem.W.Frag} {c : Value} {i : Nat} {ts : Addr → Obj → Value → Option Addr → List (Addr × Obj) → TS} {Wout : WX} {tb : WX → List (Addr × Obj) → (Value → Shared → Prop) → TS} (h : ∀ pn xe, Run (tb (wAs K c i (tAll ts) Wout ⟨nx, rt, bk, ct⟩) pn xe) nx rt bk ct σ H) :
    Run (tTryAs K c i ts Wout tb) nx rt bk ct σ H := h
theorem run_tryOnly {K : PySem.W.Frag} {c : Value} {ts : Addr → Obj → Value → Option Addr → List (Addr × Obj) → TS} {Wout : WX} {tb : WX → List (Addr × Obj) → (Value → Shared → Prop) → TS} (h : ∀ pn xe, Run (tb (wOnly K c (tAll ts) Wout ⟨nx, rt, bk, ct⟩) pn xe) nx rt bk ct σ H) :
    Run (tTryOnly K c ts Wout tb) nx rt bk ct σ H := h
theorem w_only {K : PySem.W.Frag} {c cls : Value} {d : Option Addr} {ts : Addr → Obj → Value → Option Addr → List (Addr × Obj) → TS} {Wout : WX} (hm : PySem.W.exmOne K cls c = some true)
    (q : ∀ a oe pn, H a = none → Run (ts a oe cls d pn) nx rt bk ct σ H) : wOnly K c (tAll ts) Wout ⟨nx, rt, bk, ct⟩ cls d σ H :=
  ⟨true, hm, fun _ a ha oe pn => q a oe pn ha, fun z => nomatch z⟩
theorem w_as {K : PySem.W.Frag} {c cls : Value} {i : Nat} {d : Option Addr} {ts : Addr → Obj → Value → Option Addr → List (Addr × Obj) → TS} {Wout : WX} (hm : PySem.W.exmOne K cls c = some true)
    (q : ∀ a oe pn, H a = none → Kont (fun σ1 H1 => Run (ts a oe cls d pn) (fun σ' H' => Kont nx σ' i none H') rt (fun σ' H' => Kont bk σ' i none H') (fun σ' H' => Kont ct σ' i none H') σ1 H1) σ i (some (.ref a)) H) : wAs K c i (tAll ts) Wout ⟨nx, rt, bk, ct⟩ cls d σ H :=
  ⟨true, hm, fun _ a ha oe pn => q a oe pn ha, fun z => nomatch z⟩
/-! ### C(..) -/
def rMk (C : Addr) (sp : Sp) (E : XK) (vs : List V) (H : Hp) (Q : VK) : Prop := ∀ x dx, H x = none → H dx = none → dx ≠ x → sp (.ref x :: vs) (upd (upd H dx (.own x)) x (.ins C dx [])) (fun v H2 => v = .non ∧ Q (.ref x) H2) E
theorem st_mk {C : Addr} {dvs : List V} (h : as σ H fun vs H1 => rMk C sp (E σ) (vs ++ dvs) H1 Q) : tMkS C sp dvs E as σ H Q := h
/-- the new instance: what was stays, the instance is x -/
theorem v_mk {C : Addr} {vs : List V} {E : XK} (h : ∀ x dx H1, H x = none → Ext H H1 → H1 x = some (.ins C dx []) → sp (.ref x :: vs) H1 (fun v H2 => v = .non ∧ Q (.ref x) H2) E) : rMk C sp E vs H Q := fun x dx hx hd hn =>
  h x dx _ hx (fun a o e => by rw [upd_ne (ne_of_none e hx), upd_ne (ne_of_none e hd)]; exact e) upd_same
/-! ### list(range(..)) -/
def rLstRg (a b : Int) (H : Hp) (Q : VK) : Prop := RgOk a b ∧ ∀ q, H q = none → Q (.ref q) (upd H q (.lst (rgV a b)))
def rRg2 (x y : V) (H : Hp) (Q : Int → Int → Hp → Prop) : Prop := ∃ i j, x = .int i ∧ y = .int j ∧ Q i j H
theorem st_lstRg2 (h : ta σ H fun x H1 => tb σ H1 fun y H2 => rRg2 x y H2 fun a b H3 => rLstRg a b H3 Q) : tLstRg (tRg2 ta tb) σ H Q := h
theorem v_rg2 {Q : Int → Int → Hp → Prop} (q : Q i j H) : rRg2 (.int i) (.int j) H Q := ⟨i, j, rfl, rfl, q⟩
theorem v_lstRg (hr : RgOk i j) (h : ∀ p H2, H p = none → Ext H H2 → H2 p = some (.lst (rgV i j)) → Q (.ref p) H2) : rLstRg i j H Q := ⟨hr, fun p hp => h p _ hp (Ext.new hp) upd_same⟩
/-! ### own operators -/
theorem v_own {C a b dx dy : Addr} {fs gs : List (Str × V)} (ha : H a = some (.ins C dx fs)) (hb : H b = some (.ins C dy gs)) (q : sp [.ref a, .ref b] H Q (E σ)) : rOwn C sp E σ (.ref a) (.ref b) H Q := ⟨a, dx, fs, b, dy, gs, rfl, ha, rfl, hb, q⟩
theorem v_ownI {C a dx : Addr} {fs : List (Str × V)} (ha : H a = some (.ins C dx fs)) (q : sp [.ref a, .int i] H Q (E σ)) : rOwnI C sp E σ (.ref a) (.int i) H Q := ⟨a, dx, fs, i, rfl, ha, rfl, q⟩
theorem v_ownIn {C a dx : Addr} {fs : List (Str × V)} (ha : H a = some (.ins C dx fs)) (q : sp [.ref a, y] H (fun v H' => rTest v H' fun c H' => Q (.bl c) H') (E σ)) : rOwnIn C sp E σ y (.ref a) H Q := ⟨a, dx, fs, rfl, ha, q⟩
theorem v_own1 {C a dx : Addr} {fs : List (Str × V)} (ha : H a = some (.ins C dx fs)) (q : sp [.ref a] H Q (E σ)) : rOwn1 C sp E σ (.ref a) H Q := ⟨a, dx, fs, rfl, ha, q⟩
theorem v_ownC {C a dx : Addr} {fs : List (Str × V)} (ha : H a = some (.ins C dx fs)) (q : sp [.ref a] H Q (E σ)) : rOwnC C sp E σ [.ref a] H Q := ⟨a, dx, fs, rfl, ha, q⟩
theorem v_ownB {C a dx : Addr} {fs : List (Str × V)} (ha : H a = some (.ins C dx fs)) (q : sp [.ref a] H (fun v H' => rTest v H' fun c H' => Q (.bl c) H') (E σ)) : rOwnB C sp E σ [.ref a] H Q := ⟨a, dx, fs, rfl, ha, q⟩
theorem v_ownLen {C a dx : Addr} {fs : List (Str × V)} (ha : H a = some (.ins C dx fs)) (q : sp [.ref a] H (fun v H' => ∃ n : Int, v = .int n ∧ 0 ≤ n ∧ n < 2 ^ 63 ∧ Q (.int n) H') (E σ)) : rOwnLen C sp E σ [.ref a] H Q := ⟨a, dx, fs, rfl, ha, q⟩
/-! ### targets -/
theorem g_name {n : Nat} {k : L2.St → Hp → Prop} (h : k (σ.set n (some v)) H) : gName n v σ H k := h
theorem g_tup {a : Addr} {xs : List V} {n : Nat} {tg : TGs} {k : L2.St → Hp → Prop} (ha : H a = some (.tup xs)) (hl : xs.length = n) (h : tg xs σ H k) : gTup K n tg (.ref a) σ H k := ⟨a, xs, rfl, SqT.of ha, hl, h⟩
theorem g_cons {xs : List V} {g : TG} {tg : TGs} {k : L2.St → Hp → Prop} (h : g v σ H fun σ' H' => tg xs σ' H' k) : gCons g tg (v :: xs) σ H k := ⟨v, xs, rfl, h⟩
theorem g_nil {k : L2.St → Hp → Prop} (h : k σ H) : gNil [] σ H k := ⟨rfl, h⟩
/-! ### for -/
def rFor (J : It) (g : TG) (t : TS) (nx : L2.St → Hp → Prop) (rt : VK) (bk ct : L2.St → Hp → Prop) (σ : L2.St) (H : Hp) : Prop := ∃ W : Nat → Nat → L2.St → Hp → Prop, (∃ m, W 0 m σ H) ∧ ∀ i m σ H, W i m σ H →
  (J.stop i H ∧ nx σ H) ∨ (J.go i H ∧ ∃ N : L2.St → Hp → Prop, (∀ σ' H', N σ' H' → ∃ m', m' < m ∧ W (i + 1) m' σ' H') ∧ ∀ x H', J.yld i H x H' → g x σ H' fun σ2 H2 => t ⟨N, rt, nx, N⟩ σ2 H2)
theorem run_for {wi : TI} {g : TG} (h : wi σ H fun J H1 => rFor J g t nx rt bk ct σ H1) : Run (tFor wi g t) nx rt bk ct σ H := h
def rRng1 (vs : List V) (H : Hp) (R : It → Hp → Prop) : Prop := ∃ j : Int, vs = [.int j] ∧ -(2 ^ 62) ≤ j ∧ j < 2 ^ 62 ∧ R (Itr 0 j.toNat) H
def rRng2 (vs : List V) (H : Hp) (R : It → Hp → Prop) : Prop := ∃ i j : Int, vs = [.int i, .int j] ∧ (-(2 ^ 62) ≤ i ∧ i < 2 ^ 62 ∧ -(2 ^ 62) ≤ j ∧ j < 2 ^ 62) ∧ R (Itr i (j - i).toNat) H
def rSeqL (K : PySem.W.Frag) (x : V) (H : Hp) (R : It → Hp → Prop) : Prop := ∃ a, x = .ref a ∧ (∃ xs, SqL K H a xs) ∧ R (Itl K a) H
def rSeqT (K : PySem.W.Frag) (x : V) (H : Hp) (R : It → Hp → Prop) : Prop := ∃ a, x = .ref a ∧ (∃ xs, SqT K H a xs) ∧ R (Itt K a) H
theorem i_rng1 {R : It → Hp → Prop} (h : as σ H fun vs H1 => rRng1 vs H1 R) : iRng1 as σ H R := h
theorem i_rng2 {R : It → Hp → Prop} (h : as σ H fun vs H1 => rRng2 vs H1 R) : iRng2 as σ H R := h
theorem i_list {R : It → Hp → Prop} (h : te σ H fun x H1 => rSeqL K x H1 R) : iList K te σ H R := h
theorem i_tup {R : It → Hp → Prop} (h : te σ H fun x H1 => rSeqT K x H1 R) : iTup K te σ H R := h
theorem r_rng1 {R : It → Hp → Prop} (h0 : -1000000 ≤ j) (h1 : j ≤ 1000000) (q : R (Itr 0 j.toNat) H) : rRng1 [.int j] H R := ⟨j, rfl, by omega, by omega, q⟩
theorem r_rng2 {R : It → Hp → Prop} (h0 : -1000000 ≤ i) (h1 : i ≤ 1000000) (h2 : -1000000 ≤ j) (h3 : j ≤ 1000000) (q : R (Itr i (j - i).toNat) H) : rRng2 [.int i, .int j] H R := ⟨i, j, rfl, ⟨by omega, by omega, by omega, by omega⟩, q⟩
theorem r_seqL {R : It → Hp → Prop} {a : Addr} {xs : List V} (ha : H a = some (.lst xs)) (q : R (Itl K a) H) : rSeqL K (.ref a) H R := ⟨a, rfl, ⟨xs, SqL.of ha⟩, q⟩
theorem r_seqLK {R : It → Hp → Prop} {a : Addr} {xs : List V} (ha : SqL K H a xs) (q : R (Itl K a) H) : rSeqL K (.ref a) H R := ⟨a, rfl, ⟨xs, ha⟩, q⟩
theorem r_seqT {R : It → Hp → Prop} {a : Addr} {xs : List V} (ha : H a = some (.tup xs)) (q : R (Itt K a) H) : rSeqT K (.ref a) H R := ⟨a, rfl, ⟨xs, SqT.of ha⟩, q⟩
/-- a range, by a word of the turn -/
theorem f_range {lo : Int} {n : Nat} {g : TG} (Pv : Nat → L2.St → Hp → Prop) (h0 : Pv 0 σ H) (hs : ∀ i σ H, i < n → Pv i σ H → g (.int (lo + i)) σ H fun σ2 H2 => Run t (Pv (i + 1)) rt nx (Pv (i + 1)) σ2 H2) (hd : ∀ σ H, Pv n σ H → nx σ H) :
    rFor (Itr lo n) g t nx rt bk ct σ H := for_range (D := ⟨nx, rt, bk, ct⟩) Pv h0 hs hd
/-- range(n) from 0 -/
theorem f_range0 {n : Nat} {g : TG} (Pv : Nat → L2.St → Hp → Prop) (h0 : Pv 0 σ H) (hs : ∀ (i : Nat) σ H, i < n → Pv i σ H → g (.int (i : Int)) σ H fun σ2 H2 => Run t (Pv (i + 1)) rt nx (Pv (i + 1)) σ2 H2) (hd : ∀ σ H, Pv n σ H → nx σ H) :
    rFor (Itr 0 n) g t nx rt bk ct σ H := f_range Pv h0 (fun i σ H hi p => by rw [show (0 : Int) + (i : Int) = (i : Int) by omega]; exact hs i σ H hi p) hd
theorem v_ixLn {a : Addr} {xs : List V} {n : Nat} (ha : H a = some (.lst xs)) (h : xs[n]? = some v) (q : Q v H) : uIx K (.ref a) (.int (n : Int)) H Q := v_ixL ha (by omega) h q
theorem v_setN {a : Addr} {xs : List V} {n : Nat} {k : Hp → Prop} (ha : H a = some (.lst xs)) (h : n < xs.length) (q : ∀ H2, But a H H2 → H2 a = some (.lst (xs.set n v)) → k H2) : uSet (.ref a) (.int (n : Int)) v H k := v_set ha (by omega) h q
theorem f_list {a : Addr} {xs : List V} {g : TG} (Pv : Nat → L2.St → Hp → Prop) (h0 : Pv 0 σ H) (hl : ∀ i σ H, i ≤ xs.length → Pv i σ H → SqL K H a xs) (hs : ∀ i x σ H, xs[i]? = some x → Pv i σ H → g x σ H fun σ2 H2 => Run t (Pv (i + 1)) rt nx (Pv (i + 1)) σ2 H2)
    (hd : ∀ σ H, Pv xs.length σ H → nx σ H) : rFor (Itl K a) g t nx rt bk ct σ H := for_list (D := ⟨nx, rt, bk, ct⟩) Pv h0 hl hs hd
theorem f_tup {a : Addr} {xs : List V} {g : TG} (Pv : Nat → L2.St → Hp → Prop) (h0 : Pv 0 σ H) (hl : ∀ i σ H, i ≤ xs.length → Pv i σ H → SqT K H a xs) (hs : ∀ i x σ H, xs[i]? = some x → Pv i σ H → g x σ H fun σ2 H2 => Run t (Pv (i + 1)) rt nx (Pv (i + 1)) σ2 H2)
    (hd : ∀ σ H, Pv xs.length σ H → nx σ H) : rFor (Itt K a) g t nx rt bk ct σ H := for_tup (D := ⟨nx, rt, bk, ct⟩) Pv h0 hl hs hd
/-! ### [e for x in ..], without an if -/
def rLc (J : It) (g : TG) (tt : TT) (te : TE) (vs : List Nat) (σ : L2.St) (H1 : Hp) (Q : VK) : Prop := ∀ D, H1 D = none → ∃ W : Nat → Nat → Hp → Prop, (∃ m, W 0 m (upd H1 D (.lst []))) ∧ ∀ i m H, W i m H →
  (J.stop i H ∧ Q (.ref D) H) ∨ (J.go i H ∧ ∃ Nx : Hp → Prop, (∀ H', Nx H' → ∃ m', m' < m ∧ W (i + 1) m' H') ∧ ∀ x H', J.yld i H x H' → g x (wipe σ vs) H' fun σ2 H2 => wipe σ2 vs = wipe σ vs ∧ tt σ2 H2 fun b H3 =>
    if b = true then te σ2 H3 fun y H4 => ∃ acc, H4 D = some (.lst acc) ∧ acc.length < sizeLine ∧ Nx (upd H4 D (.lst (acc ++ [y]))) else Nx H3)
theorem st_lc {wi : TI} {g : TG} {vs : List Nat} (h : wi σ H fun J H1 => rLc J g tt te vs σ H1 Q) : tLc wi g tt te vs σ H Q := h
/-- one item more at D -/
def rAcc (D : Addr) (k : Hp → Prop) (y : V) (H : Hp) : Prop := ∃ acc, H D = some (.lst acc) ∧ acc.length < sizeLine ∧ k (upd H D (.lst (acc ++ [y])))
/-- D holds acc, n items, of which Pv -/
def LcAt (D : Addr) (n : Nat) (Pv : List V → Hp → Prop) (H : Hp) : Prop := ∃ acc, H D = some (.lst acc) ∧ acc.length = n ∧ Pv acc H
theorem v_acc {D : Addr} {n : Nat} {acc : List V} {Pv : List V → Hp → Prop} (ha : H D = some (.lst acc)) (hl : acc.length = n) (hz : n < 1000000) (q : ∀ H2, But D H H2 → H2 D = some (.lst (acc ++ [y])) → Pv (acc ++ [y]) H2) : rAcc D (LcAt D (n + 1) Pv) y H :=
  ⟨acc, ha, by rw [hl]; exact Nat.lt_of_lt_of_le hz (by decide), acc ++ [y], upd_same, by rw [List.length_append, hl]; rfl, q _ But.upd upd_same⟩
theorem lc_rng {lo : Int} {n : Nat} {g : TG} {vs : List Nat} (Pv : Nat → Addr → List V → Hp → Prop) (h0 : ∀ D H1, H D = none → Ext H H1 → H1 D = some (.lst []) → Pv 0 D [] H1)
    (hs : ∀ i D acc H1, H D = none → i < n → H1 D = some (.lst acc) → acc.length = i → Pv i D acc H1 → g (.int (lo + i)) (wipe σ vs) H1 fun σ2 H2 => wipe σ2 vs = wipe σ vs ∧ te σ2 H2 fun y H4 => rAcc D (LcAt D (i + 1) (Pv (i + 1) D)) y H4)
    (hd : ∀ D acc H1, H D = none → H1 D = some (.lst acc) → acc.length = n → Pv n D acc H1 → Q (.ref D) H1) : rLc (Itr lo n) g tYes te vs σ H Q := by
  intro D hD
  refine lc_range (Pv := fun i H1 => LcAt D i (Pv i D) H1) ⟨[], upd_same, rfl, h0 D _ hD (Ext.new hD) upd_same⟩ ?_ ?_
  · rintro i H1 hi ⟨acc, ha, hl, hp⟩
    exact hs i D acc H1 hD hi ha hl hp
  · rintro H1 ⟨acc, ha, hl, hp⟩
    exact hd D acc H1 hD ha hl hp
theorem lc_lst {a : Addr} {xs : List V} {g : TG} {vs : List Nat} (Pv : Nat → Addr → List V → Hp → Prop) (h0 : ∀ D H1, H D = none → Ext H H1 → H1 D = some (.lst []) → Pv 0 D [] H1)
    (hl : ∀ i D acc H1, H D = none → i ≤ xs.length → Pv i D acc H1 → SqL K H1 a xs)
    (hs : ∀ i x D acc H1, H D = none → xs[i]? = some x → H1 D = some (.lst acc) → acc.length = i → Pv i D acc H1 → g x (wipe σ vs) H1 fun σ2 H2 => wipe σ2 vs = wipe σ vs ∧ te σ2 H2 fun y H4 => rAcc D (LcAt D (i + 1) (Pv (i + 1) D)) y H4)
    (hd : ∀ D acc H1, H D = none → H1 D = some (.lst acc) → acc.length = xs.length → Pv xs.length D acc H1 → Q (.ref D) H1) : rLc (Itl K a) g tYes te vs σ H Q := by
  intro D hD
  refine lc_list (xs := xs) (Pv := fun i H1 => LcAt D i (Pv i D) H1) ⟨[], upd_same, rfl, h0 D _ hD (Ext.new hD) upd_same⟩ ?_ ?_ ?_
  · rintro i H1 hi ⟨acc, ha, hl', hp⟩
    exact hl i D acc H1 hD hi hp
  · rintro i x H1 hi ⟨acc, ha, hl', hp⟩
    exact hs i x D acc H1 hD hi ha hl' hp
  · rintro H1 ⟨acc, ha, hl', hp⟩
    exact hd D acc H1 hD ha hl' hp
end
end GG

/-! GU: the steps that ask nothing, found by instances. -/
namespace GG
open PySem L2 PyProof.Rows
class St1 (P : Prop) (P' : outParam Prop) : Prop where
  h : P' → P
class StN (P : Prop) (P' : outParam Prop) : Prop where
  h : P' → P
class StP (P : Prop) (P' : outParam Prop) : Prop where
  h : P' → P
instance (priority := low) stn_rfl {P : Prop} : StN P P := ⟨id⟩
instance stn_step {P P1 P' : Prop} [a : St1 P P1] [b : StN P1 P'] : StN P P' := ⟨fun h => a.h (b.h h)⟩
instance stp_step {P P1 P' : Prop} [a : St1 P P1] [b : StN P1 P'] : StP P P' := ⟨fun h => a.h (b.h h)⟩
/-- the value in a slot -/
class Slot1 (σ : L2.St) (i : Nat) (v : outParam V) : Prop where
  h : σ[i]? = some (some v)
instance slot_here {v : V} {σ : L2.St} : Slot1 (some v :: σ) 0 v := ⟨rfl⟩
instance slot_next {x : Option V} {σ : L2.St} {i : Nat} {v : V} [a : Slot1 σ i v] : Slot1 (x :: σ) (i + 1) v := ⟨a.h⟩
/-- a slot set -/
class SetS (σ : L2.St) (i : Nat) (v : Option V) (σ' : outParam L2.St) : Prop where
  h : σ.set i v = σ'
instance set_here {x v : Option V} {σ : L2.St} : SetS (x :: σ) 0 v (v :: σ) := ⟨rfl⟩
instance set_next {x v : Option V} {σ σ' : L2.St} {i : Nat} [a : SetS σ i v σ'] : SetS (x :: σ) (i + 1) v (x :: σ') := ⟨by rw [List.set_cons_succ, a.h]⟩
section
variable {K : PySem.W.Frag} {mg : Str → Option Value} {nx bk ct : L2.St → Hp → Prop} {rt : VK} {σ σ' : L2.St} {H : Hp} {t u : TS} {te ta tb tc : TE} {tt tu : TT} {as tr : TA} {Q : VK} {QB : Bool → Hp → Prop} {QA : List V → Hp → Prop} {v x y : V} {E : L2.St → XK} {sp : Sp} {i j : Int} {n : Nat} {b : Bool} {A B : Prop}
/-- the statements behind, by a name -/
theorem run_seqG (h : ∀ r, r = u → Run t (fun σ' H' => Run r nx rt bk ct σ' H') rt bk ct σ H) : Run (tSeq t u) nx rt bk ct σ H := h u rfl
theorem run_rest (r : TS) (h : Run r nx rt bk ct σ H) : Run r nx rt bk ct σ H := h
instance i_next : St1 (Run tNext nx rt bk ct σ H) (nx σ H) := ⟨run_next⟩
instance i_asg : St1 (Run (tAsg te (gName n)) nx rt bk ct σ H) (te σ H fun x H1 => Kont nx σ n (some x) H1) := ⟨fun h => h⟩
instance i_kont {v : Option V} [a : SetS σ n v σ'] : St1 (Kont nx σ n v H) (nx σ' H) := ⟨fun h => by unfold Kont; rw [a.h]; exact h⟩
instance i_asgS {T : TSet} : St1 (Run (tAsg te (gSub ta tb T)) nx rt bk ct σ H) (te σ H fun x H1 => ta σ H1 fun o H2 => tb σ H2 fun i H3 => T o i x H3 fun H4 => nx σ H4) := ⟨fun h => h⟩
instance i_asgT {n : Nat} {tg : TGs} : St1 (Run (tAsg te (gTup K n tg)) nx rt bk ct σ H) (te σ H fun x H1 => gTup K n tg x σ H1 nx) := ⟨fun h => h⟩
instance i_drop : St1 (Run (tDrop te) nx rt bk ct σ H) (te σ H fun _ H1 => nx σ H1) := ⟨fun h => h⟩
instance i_ret : St1 (Run (tRet te) nx rt bk ct σ H) (te σ H rt) := ⟨fun h => h⟩
instance i_retN : St1 (Run tRetN nx rt bk ct σ H) (rt .non H) := ⟨fun h => h⟩
instance i_break : St1 (Run tBreak nx rt bk ct σ H) (bk σ H) := ⟨fun h => h⟩
instance i_cont : St1 (Run tCont nx rt bk ct σ H) (ct σ H) := ⟨fun h => h⟩
instance i_ifS : St1 (Run (tIfS tt t u) nx rt bk ct σ H) (tt σ H fun b H1 => Br b (Run t nx rt bk ct σ H1) (Run u nx rt bk ct σ H1)) := ⟨fun h => h⟩
instance i_par {n m : Nat} : St1 (Run (tPar n m as) nx rt bk ct σ H) (as σ H fun vs H1 => ∃ v w, vs = [v, w] ∧ nx ((σ.set n (some v)).set m (some w)) H1) := ⟨fun h => h⟩
instance i_fldS {f : Str} : St1 (Run (sFld K ta tb f) nx rt bk ct σ H) (tb σ H fun y H1 => ta σ H1 fun x H2 => rPutF K f x y H2 (nx σ)) := ⟨fun h => h⟩
instance i_raise {C : Addr} {W : WX} : St1 (Run (tRaiseErr C W as) nx rt bk ct σ H) (as σ H fun vs H1 => rRaise C W σ vs H1) := ⟨fun h => h⟩
instance i_for {wi : TI} {g : TG} : St1 (Run (tFor wi g t) nx rt bk ct σ H) (wi σ H fun J H1 => rFor J g t nx rt bk ct σ H1) := ⟨fun h => h⟩
instance i_brT : St1 (Br true A B) A := ⟨br_t⟩
instance i_brF : St1 (Br false A B) B := ⟨br_f⟩
instance i_brN : St1 (Br (!b) A B) (Br b B A) := ⟨br_not⟩
instance i_brE {α : Type} {a : α} {d : Decidable (a = a)} : St1 (Br (@decide (a = a) d) A B) A := ⟨fun h => by rw [decide_eq_true rfl]; exact br_t h⟩
instance i_brE2 {α β : Type} {a : α} {b : β} {d : Decidable (a = a ∧ b = b)} : St1 (Br (@decide (a = a ∧ b = b) d) A B) A := ⟨fun h => by rw [decide_eq_true ⟨rfl, rfl⟩]; exact br_t h⟩
theorem br_andJ {A B : Prop} [Decidable A] [Decidable B] (h2 : ∀ Q' : VK, Q' (.bl (decide B)) H → tb σ H Q') (q : Q (.bl (decide (A ∧ B))) H) : Br (decide A) (tb σ H Q) (Q (.bl false) H) := br_d (fun a => h2 _ (by rw [dec_congr (q := A ∧ B) ⟨fun b => ⟨a, b⟩, fun z => z.2⟩]; exact q)) (fun a => by rw [← decide_eq_false (p := A ∧ B) fun z => a z.1]; exact q)
theorem br_orJ {A B : Prop} [Decidable A] [Decidable B] (h2 : ∀ Q' : VK, Q' (.bl (decide B)) H → tb σ H Q') (q : Q (.bl (decide (A ∨ B))) H) : Br (decide A) (Q (.bl true) H) (tb σ H Q) := br_d (fun a => by rw [← decide_eq_true (p := A ∨ B) (.inl a)]; exact q) (fun a => h2 _ (by rw [dec_congr (q := A ∨ B) ⟨fun b => .inr b, fun z => z.resolve_left a⟩]; exact q))
/-- the slots of a comprehension's names, empty -/
class WipeS (σ : L2.St) (vs : List Nat) (σ' : outParam L2.St) : Prop where
  h : wipe σ vs = σ'
instance wipe_nil : WipeS σ [] σ := ⟨rfl⟩
instance wipe_cons {n : Nat} {vs : List Nat} {σ1 σ2 : L2.St} [a : WipeS σ vs σ1] [b : SetS σ1 n none σ2] : WipeS σ (n :: vs) σ2 := ⟨by show (wipe σ vs).set n none = σ2; rw [a.h, b.h]⟩
instance i_var [a : Slot1 σ n v] : St1 (tVar n σ H Q) (Q v H) := ⟨fun h => ⟨v, a.h, h⟩⟩
instance i_c : St1 (tC v σ H Q) (Q v H) := ⟨fun h => h⟩
instance i_op {r : R2} : St1 (tOp r ta tb σ H Q) (ta σ H fun x H1 => tb σ H1 fun y H2 => r x y H2 Q) := ⟨fun h => h⟩
instance i_opS {r : R2S} : St1 (tOpS r ta tb σ H Q) (ta σ H fun x H1 => tb σ H1 fun y H2 => r σ x y H2 Q) := ⟨fun h => h⟩
instance i_un {r : V → Hp → VK → Prop} : St1 (tUn r ta σ H Q) (ta σ H fun x H1 => r x H1 Q) := ⟨fun h => h⟩
instance i_unS {r : L2.St → V → Hp → VK → Prop} : St1 (tUnS r ta σ H Q) (ta σ H fun x H1 => r σ x H1 Q) := ⟨fun h => h⟩
instance i_nil : St1 (tNil σ H QA) (QA [] H) := ⟨fun h => h⟩
instance i_cons : St1 (tCons ta tr σ H QA) (ta σ H fun x H1 => tr σ H1 fun xs H2 => QA (x :: xs) H2) := ⟨fun h => h⟩
instance i_cb {r : List V → Hp → VK → Prop} : St1 (tCB r as σ H Q) (as σ H fun vs H1 => r vs H1 Q) := ⟨fun h => h⟩
instance i_cbS {r : L2.St → List V → Hp → VK → Prop} : St1 (tCBS r as σ H Q) (as σ H fun vs H1 => r σ vs H1 Q) := ⟨fun h => h⟩
/-- the arguments with the defaults -/
class AppV (vs ds : List V) (ws : outParam (List V)) : Prop where
  h : vs ++ ds = ws
instance app_nil {ds : List V} : AppV [] ds ds := ⟨rfl⟩
instance app_cons {vs ds ws : List V} [a : AppV vs ds ws] : AppV (v :: vs) ds (v :: ws) := ⟨by rw [List.cons_append, a.h]⟩
def SpAt (sp : Sp) (dvs vs : List V) (H : Hp) (Q : VK) (E : XK) : Prop := sp (vs ++ dvs) H Q E
instance i_fn {dvs : List V} : St1 (tCallSD sp dvs E as σ H Q) (as σ H fun vs H1 => SpAt sp dvs vs H1 Q (E σ)) := ⟨fun h => h⟩
instance i_sp {dvs vs ws : List V} {E : XK} [a : AppV vs dvs ws] : St1 (SpAt sp dvs vs H Q E) (sp ws H Q E) := ⟨fun h => by unfold SpAt; rw [a.h]; exact h⟩
def MkAt (C : Addr) (sp : Sp) (dvs vs : List V) (H : Hp) (Q : VK) (E : XK) : Prop := rMk C sp E (vs ++ dvs) H Q
instance i_mk {C : Addr} {dvs : List V} : St1 (tMkS C sp dvs E as σ H Q) (as σ H fun vs H1 => MkAt C sp dvs vs H1 Q (E σ)) := ⟨fun h => h⟩
instance i_mkA {C : Addr} {dvs vs ws : List V} {E : XK} [a : AppV vs dvs ws] : St1 (MkAt C sp dvs vs H Q E) (rMk C sp E ws H Q) := ⟨fun h => by unfold MkAt; rw [a.h]; exact h⟩
instance i_tupE : St1 (tTup as σ H Q) (as σ H fun xs H1 => rTup xs H1 Q) := ⟨fun h => h⟩
instance i_lstE : St1 (tLst as σ H Q) (as σ H fun xs H1 => rLst xs H1 Q) := ⟨fun h => h⟩
instance i_fld {f : Str} : St1 (tFld K ta f σ H Q) (ta σ H fun x H1 => rFld K f x H1 Q) := ⟨fun h => h⟩
instance i_test : St1 (tTest te σ H QB) (te σ H fun x H' => rTest x H' QB) := ⟨fun h => h⟩
instance i_testB : St1 (rTest (.bl b) H QB) (QB b H) := ⟨r_test⟩
instance i_tru : St1 (tTru K te σ H QB) (te σ H fun x H' => rTru K x H' QB) := ⟨fun h => h⟩
instance i_truB : St1 (rTru K (.bl b) H QB) (QB b H) := ⟨r_truB⟩
instance i_not : St1 (tNot tt σ H QB) (tt σ H fun c H1 => QB (!c) H1) := ⟨fun h => h⟩
instance i_and : St1 (tAnd tt tu σ H QB) (tt σ H fun c H1 => Br c (tu σ H1 QB) (QB false H1)) := ⟨fun h => h⟩
instance i_or : St1 (tOr tt tu σ H QB) (tt σ H fun c H1 => Br c (QB true H1) (tu σ H1 QB)) := ⟨fun h => h⟩
instance i_andV : St1 (tAndV ta tb σ H Q) (ta σ H fun x H1 => rAndV tb σ x H1 Q) := ⟨fun h => h⟩
instance i_orV : St1 (tOrV ta tb σ H Q) (ta σ H fun x H1 => rOrV tb σ x H1 Q) := ⟨fun h => h⟩
instance i_notV : St1 (tNotV ta σ H Q) (ta σ H fun x H1 => rNotV x H1 Q) := ⟨fun h => h⟩
instance i_andB : St1 (rAndV tb σ (.bl b) H Q) (Br b (tb σ H Q) (Q (.bl false) H)) := ⟨r_andV⟩
instance i_orB : St1 (rOrV tb σ (.bl b) H Q) (Br b (Q (.bl true) H) (tb σ H Q)) := ⟨r_orV⟩
instance i_notB : St1 (rNotV (.bl b) H Q) (Q (.bl (!b)) H) := ⟨r_notV⟩
instance i_ifE : St1 (tIf tt ta tb σ H Q) (tt σ H fun c H1 => Br c (ta σ H1 Q) (tb σ H1 Q)) := ⟨fun h => h⟩
instance i_chain {r r' : R2} : St1 (tChain r r' ta tb tc σ H Q) (ta σ H fun x H1 => tb σ H1 fun y H2 => r x y H2 fun z H3 => rChain r' tc σ y z H3 Q) := ⟨fun h => h⟩
instance i_chainB {r' : R2} : St1 (rChain r' tc σ y (.bl b) H Q) (Br b (tc σ H fun w' H4 => r' y w' H4 Q) (Q (.bl false) H)) := ⟨r_chain⟩
instance j_add : St1 (uAdd K (.int i) (.int j) H Q) (Q (.int (i + j)) H) := ⟨v_add⟩
instance j_sub : St1 (uSub (.int i) (.int j) H Q) (Q (.int (i - j)) H) := ⟨v_sub⟩
instance j_lt : St1 (uLt (.int i) (.int j) H Q) (Q (.bl (decide (i < j))) H) := ⟨v_lt⟩
instance j_le : St1 (uLe (.int i) (.int j) H Q) (Q (.bl (decide (i ≤ j))) H) := ⟨v_le⟩
instance j_gt : St1 (uGt (.int i) (.int j) H Q) (Q (.bl (decide (j < i))) H) := ⟨v_gt⟩
instance j_ge : St1 (uGe (.int i) (.int j) H Q) (Q (.bl (decide (j ≤ i))) H) := ⟨v_ge⟩
instance j_eq : St1 (uEq K (.int i) (.int j) H Q) (Q (.bl (decide (i = j))) H) := ⟨v_eq⟩
instance j_ne : St1 (uNe K (.int i) (.int j) H Q) (Q (.bl (!decide (i = j))) H) := ⟨v_ne⟩
instance j_eqB {b b' : Bool} : St1 (uEq K (.bl b) (.bl b') H Q) (Q (.bl (decide (b = b'))) H) := ⟨v_eqB⟩
instance j_neB {b b' : Bool} : St1 (uNe K (.bl b) (.bl b') H Q) (Q (.bl (!decide (b = b'))) H) := ⟨v_neB⟩
instance j_eqS {z z' : Str} : St1 (uEq K (.str z) (.str z') H Q) (Q (.bl (decide (z = z'))) H) := ⟨v_eqS⟩
instance j_neS {z z' : Str} : St1 (uNe K (.str z) (.str z') H Q) (Q (.bl (!decide (z = z'))) H) := ⟨v_neS⟩
instance j_neg : St1 ((rU fun i => .int (-i)) (.int i) H Q) (Q (.int (-i)) H) := ⟨v_neg⟩
instance j_int : St1 (cInt [.int i] H Q) (Q (.int i) H) := ⟨v_int⟩
instance j_intB : St1 (cInt [.bl b] H Q) (Q (.int (if b then 1 else 0)) H) := ⟨v_intB⟩
instance j_bool : St1 (cBool [.bl b] H Q) (Q (.bl b) H) := ⟨v_boolB⟩
instance j_min : St1 (cMin2 [.int i, .int j] H Q) (Q (.int (min i j)) H) := ⟨v_min2⟩
instance j_max : St1 (cMax2 [.int i, .int j] H Q) (Q (.int (max i j)) H) := ⟨v_max2⟩
instance j_abs : St1 (cAbs [.int i] H Q) (Q (.int (if i < 0 then -i else i)) H) := ⟨v_abs⟩
instance j_isII : St1 (rIsi K [.int i, .ty "int"] H Q) (Q (.bl true) H) := ⟨v_isII⟩
instance j_isIB : St1 (rIsi K [.int i, .ty "bool"] H Q) (Q (.bl false) H) := ⟨v_isIB⟩
instance j_isBB : St1 (rIsi K [.bl b, .ty "bool"] H Q) (Q (.bl true) H) := ⟨v_isBB⟩
instance i_subj {a : Addr} {cls : Value} {d : Option Addr} : St1 (tSubj K mg a cls d te σ H Q) (te σ H fun x H1 => rSubj K mg a cls d x H1 Q) := ⟨fun h => h⟩
instance i_lstRg2 : St1 (tLstRg (tRg2 ta tb) σ H Q) (ta σ H fun x H1 => tb σ H1 fun y H2 => rRg2 x y H2 fun a b H3 => rLstRg a b H3 Q) := ⟨fun h => h⟩
instance j_rg2 {Q : Int → Int → Hp → Prop} : St1 (rRg2 (.int i) (.int j) H Q) (Q i j H) := ⟨v_rg2⟩
instance i_gname {k : L2.St → Hp → Prop} : St1 (gName n v σ H k) (Kont k σ n (some v) H) := ⟨fun h => h⟩
instance i_gcons {xs : List V} {g : TG} {tg : TGs} {k : L2.St → Hp → Prop} : St1 (gCons g tg (v :: xs) σ H k) (g v σ H fun σ' H' => tg xs σ' H' k) := ⟨g_cons⟩
instance i_gnil {k : L2.St → Hp → Prop} : St1 (gNil [] σ H k) (k σ H) := ⟨g_nil⟩
instance i_irng1 {R : It → Hp → Prop} : St1 (iRng1 as σ H R) (as σ H fun vs H1 => rRng1 vs H1 R) := ⟨fun h => h⟩
instance i_irng2 {R : It → Hp → Prop} : St1 (iRng2 as σ H R) (as σ H fun vs H1 => rRng2 vs H1 R) := ⟨fun h => h⟩
instance i_ilist {R : It → Hp → Prop} : St1 (iList K te σ H R) (te σ H fun x H1 => rSeqL K x H1 R) := ⟨fun h => h⟩
instance i_itup {R : It → Hp → Prop} : St1 (iTup K te σ H R) (te σ H fun x H1 => rSeqT K x H1 R) := ⟨fun h => h⟩
instance i_lc {wi : TI} {g : TG} {vs : List Nat} : St1 (tLc wi g tt te vs σ H Q) (wi σ H fun J H1 => rLc J g tt te vs σ H1 Q) := ⟨fun h => h⟩
instance i_bm {T : String} {r : V → List V → Hp → VK → Prop} : St1 (tBM K T r ta as σ H Q) (ta σ H fun x H1 => tyV K T x H1 ∧ as σ H1 fun xs H2 => r x xs H2 Q) := ⟨fun h => h⟩
instance i_bm0 {T : String} {r : V → List V → Hp → VK → Prop} : St1 (tBM0 K T r ta σ H Q) (ta σ H fun x H1 => tyV K T x H1 ∧ r x [] H1 Q) := ⟨fun h => h⟩
/-- the element of a comprehension, its names set -/
def LcK (vs : List Nat) (σw : L2.St) (te : TE) (k : VK) (σ2 : L2.St) (H2 : Hp) : Prop := wipe σ2 vs = σw ∧ te σ2 H2 k
instance i_lck {vs : List Nat} {σw : L2.St} [a : WipeS σ vs σw] : St1 (LcK vs σw te Q σ H) (te σ H Q) := ⟨fun h => ⟨a.h, h⟩⟩
theorem lcR {lo : Int} {n : Nat} {g : TG} {vs : List Nat} {σw : L2.St} [a : WipeS σ vs σw] (Pv : Nat → Addr → List V → Hp → Prop) (h0 : ∀ D H1, H D = none → Ext H H1 → H1 D = some (.lst []) → Pv 0 D [] H1)
    (hs : ∀ i D acc H1, H D = none → i < n → H1 D = some (.lst acc) → acc.length = i → Pv i D acc H1 → g (.int (lo + i)) σw H1 fun σ2 H2 => LcK vs σw te (fun y H4 => rAcc D (LcAt D (i + 1) (Pv (i + 1) D)) y H4) σ2 H2)
    (hd : ∀ D acc H1, H D = none → H1 D = some (.lst acc) → acc.length = n → Pv n D acc H1 → Q (.ref D) H1) : rLc (Itr lo n) g tYes te vs σ H Q :=
  lc_rng Pv h0 (fun i D acc H1 hD hi h1 hl hp => by rw [a.h]; exact hs i D acc H1 hD hi h1 hl hp) hd
theorem lcL {ad : Addr} {xs : List V} {g : TG} {vs : List Nat} {σw : L2.St} [a : WipeS σ vs σw] (Pv : Nat → Addr → List V → Hp → Prop) (h0 : ∀ D H1, H D = none → Ext H H1 → H1 D = some (.lst []) → Pv 0 D [] H1)
    (hl : ∀ i D acc H1, H D = none → i ≤ xs.length → Pv i D acc H1 → SqL K H1 ad xs)
    (hs : ∀ i x D acc H1, H D = none → xs[i]? = some x → H1 D = some (.lst acc) → acc.length = i → Pv i D acc H1 → g x σw H1 fun σ2 H2 => LcK vs σw te (fun y H4 => rAcc D (LcAt D (i + 1) (Pv (i + 1) D)) y H4) σ2 H2)
    (hd : ∀ D acc H1, H D = none → H1 D = some (.lst acc) → acc.length = xs.length → Pv xs.length D acc H1 → Q (.ref D) H1) : rLc (Itl K ad) g tYes te vs σ H Q :=
  lc_lst (xs := xs) Pv h0 hl (fun i x D acc H1 hD hi h1 hl' hp => by rw [a.h]; exact hs i x D acc H1 hD hi h1 hl' hp) hd
end
end GG

/-! GV: == of an own instance and a value of another kind, both ways. -/
namespace GG
open PySem L2 PyProof.Rows
section
variable {X : Cx} {CX : CXT} {k : Nat} {C f : Addr} {fd : FuncData} {ps : List Str} {sp : Sp} {E : L2.St → XK}
/-- x == y by the text's own ==, y of a built-in type T -/
def rOwnEqT (C : Addr) (sp : Sp) (E : L2.St → XK) : R2S := fun σ x y H Q => ∃ a dx fs, x = .ref a ∧ H a = some (.ins C dx fs) ∧ ((∃ i, y = .int i) ∨ ∃ b ys, y = .ref b ∧ H b = some (.tup ys)) ∧ sp [.ref a, y] H Q (E σ)
theorem op_ownEqT (S : Sm X.prog X.w X.K X.mg X.base C "__eq__" k ps sp) (hr : Room k X.A) (hx : Ps X E) (h1 : PySem.W.notFirst X.K C (.type "int") = true) (h2 : PySem.W.notFirst X.K C (.type "tuple") = true) : OpS X (compareOp .Eq) (rOwnEqT C sp E) := by
  intro pins s σ H x y v u Q I rx ry hq
  obtain ⟨f, fd, F, hs, hf, hb⟩ := S.ex
  obtain ⟨a, dx, fs, rfl, ha, hy, q⟩ := hq
  cases rx
  obtain ⟨_, _, J⟩ := inst_of I ha
  obtain ⟨m, hF⟩ := I.fr
  show wpAny (model X.prog X.w) X.A (richCompare .Eq _ _) (EP X pins σ Q) X.xe s
  rcases hy with ⟨i, rfl⟩ | ⟨b, ys, rfl, hb'⟩
  · obtain ⟨t, rfl⟩ := (show ∃ t, u = Value.int i t from ry)
    refine PySem.W.cmp_K (op := .Eq) (tb := .type "int") hr.units0 hF I.ok.mod.kin J (PySem.W.Looks.of_pure rfl) h1 hs hf ?_
    exact thn (run_at0 (vs := [.ref a, .int i]) F hr rfl hb (hx σ) I (.cons rfl (.cons ⟨t, rfl⟩ .nil)) q) fun _ _ z => cmpBack_ep z
  · cases (show u = Value.ref b from ry)
    obtain ⟨_, its, rv, o, g1, g2, n, g3⟩ := (show ObjOk X.prog X.w H s.heap b (.tup ys) from I.hok b _ hb')
    have ty : PySem.W.Looks (model X.prog X.w) s.heap (typeOf (.ref b)) (.type "tuple") := by
      intro A' Q' E' s' k' q'
      exact wpAny_typeOf (show s'.TypeIs (.ref b) "tuple" from ⟨o, k' _ _ g1, g2⟩) q'
    refine PySem.W.cmp_K (op := .Eq) (tb := .type "tuple") hr.units0 hF I.ok.mod.kin J ty h2 hs hf ?_
    exact thn (run_at0 (vs := [.ref a, .ref b]) F hr rfl hb (hx σ) I (.cons rfl (.cons rfl .nil)) q) fun _ _ z => cmpBack_ep z
/-- int.__eq__ declines an own instance -/
theorem int_eq_own {A : Around} {s : Shared} {i : Int} {t : Tok} {a : Addr} {Q : Value → Shared → Prop} {E : Value → Shared → Prop} {prog : Program} {w : World} {dx : Addr} (ho : s.heap.get? a = some (PySem.W.instObj C dx)) (h : Q .notImplemented s) :
    wpAny (model prog w) A (call (.builtin "int.__eq__") [.int i t, .ref a]) Q E s := by
  refine wpAny_call (codeAny_call_builtin F.slot_int_eq.plain F.entry_int_eq (F.slot_int_eq.check _ _ _ _ _ _ _ _ (typeIs_int s i t) (F.args_int_eq_2 _ _) ?_))
  obtain ⟨hp, g, d, tk, os⟩ := s
  have ho' : hp.get? a = some (PySem.W.instObj C dx) := ho
  unfold PySem.W.instObj at ho'
  wp_walk using wpAny_load ho'
  exact h
/-- y == x, y an int: int declines, the text's own == is asked -/
def rEqOwnR (C : Addr) (sp : Sp) (E : L2.St → XK) : R2S := fun σ y x H Q => ∃ a dx fs i, y = .int i ∧ x = .ref a ∧ H a = some (.ins C dx fs) ∧ sp [.ref a, .int i] H Q (E σ)
theorem op_eqOwnR (S : Sm X.prog X.w X.K X.mg X.base C "__eq__" k ps sp) (hr : Room k X.A) (hx : Ps X E) (hsub : PySem.W.subIn X.K (.ref C) (.type "int") = some false) : OpS X (compareOp .Eq) (rEqOwnR C sp E) := by
  intro pins s σ H y x v u Q I ry rx hq
  obtain ⟨f, fd, F, hs, hf, hb⟩ := S.ex
  obtain ⟨a, dx, fs, i, rfl, rfl, ha, q⟩ := hq
  cases rx
  obtain ⟨t, rfl⟩ := (show ∃ t, v = Value.int i t from ry)
  obtain ⟨_, _, J⟩ := inst_of I ha
  have ho : s.heap.get? a = some (PySem.W.instObj C dx) := (show ObjOk X.prog X.w H s.heap a (.ins C dx fs) from I.hok a _ ha).2.2.2.1
  have XK := I.kIn
  show wpAny (model X.prog X.w) X.A (richCompare .Eq _ _) (EP X pins σ Q) X.xe s
  have one : wpAny (model X.prog X.w) X.A (tryCompare (.ref a) "__eq__" (.int i t)) (fun r s' => ∃ v, r = some v ∧ EP X pins σ Q v s') X.xe s := by
    unfold tryCompare
    refine wpAny_bind (PySem.W.ifBound_K XK J hs hf (thn (run_at0 (vs := [.ref a, .int i]) F hr rfl hb (hx σ) I (.cons rfl (.cons ⟨t, rfl⟩ .nil)) q) fun v s' hv => ?_))
    have hv' := cmpBack_ep hv
    cases v <;> first | exact hv'.elim | exact wpAny_pure ⟨_, rfl, hv⟩
  unfold richCompare
  have on : oneThing? .Eq (.int i t) (.ref a) = none := by rfl
  simp only [on]
  refine wpAny_holding (wpAny_bind (wpAny_cRoomFor hr.units0 ?_))
  refine wpAny_bind (wpAny_typeOf (typeIs_int s i t) (wpAny_bind (J.type.here ?_)))
  have hne : (Value.type "int" != Value.ref C) = true := rfl
  rw [if_pos hne]
  refine wpAny_bind ((PySem.W.looks_subIn XK hsub).here ?_)
  simp only [Bool.false_eq_true, if_false, Bool.not_false, if_true]
  refine wpAny_bind (m := tryCompare (.int i t) _ (.ref a)) (wpAny_tryCompare_declines (typeIs_int s i t) PySem.F.slot_int_eq (int_eq_own ho ⟨rfl, ?_⟩))
  refine wpAny_bind (m := tryCompare (.ref a) _ (.int i t)) (thn one fun r s' hr' => ?_)
  obtain ⟨v, rfl, hq⟩ := hr'
  exact wpAny_pure hq
end
/-! ### properties -/
structure Pr (P : Program) (w : World) (K : PySem.W.Frag) (mg : Str → Option Value) (base : Heap) (C : Addr) (m : Str) (k : Nat) (ps : List Str) (sp : Sp) : Prop where
  ex : ∃ p g fd, FnOk P w K mg base (L2N.CX P w) k g fd ps sp ∧ PropOf K C m p g ∧ L2.Binds K fd ps []
  cls : Cls K C
theorem passN {X : Cx} : Passes (L2N.CX X.prog X.w) X E0 := fun _ _ _ _ _ _ _ h => by
  obtain ⟨_, _, _, _, _, _, _, _, _, _, _, _, z⟩ := h
  exact z.elim
theorem pe_pr {X : Cx} {C : Addr} {m : Str} {k : Nat} {ps : List Str} {sp : Sp} {e : Expr} {ta : TE} {pos : Pos} (F : Pr X.prog X.w X.K X.mg X.base C m k ps sp) (hr : Room (k + 1) X.A) (he : PE X e ta) (hab : attributeBase e m X.env (eval e X.env) = eval e X.env) :
    PE X (.Attribute e m pos) (tProp C sp [] E0 ta) := by
  obtain ⟨⟨p, g, fd, F, hp, hb⟩, c⟩ := F
  exact pe_prop he c hp F hr hb .nil (passN (X := X.nox)) hab
section
variable {K : PySem.W.Frag} {mg : Str → Option Value} {nx bk ct : L2.St → Hp → Prop} {rt : VK} {σ σ' σ1 σ2 : L2.St} {H : Hp} {t u : TS} {te ta tb tc : TE} {tt tu : TT} {as tr : TA} {Q : VK} {QB : Bool → Hp → Prop} {v x y : V} {E : L2.St → XK} {sp : Sp} {i j : Int} {n m : Nat} {b : Bool} {A B : Prop}
def rProp (C : Addr) (sp : Sp) (x : V) (H : Hp) (Q : VK) : Prop := ∃ a dx fs, x = .ref a ∧ H a = some (.ins C dx fs) ∧ sp [.ref a] H Q E0
instance i_prop {C : Addr} : St1 (tProp C sp [] E0 ta σ H Q) (ta σ H fun x H1 => rProp C sp x H1 Q) := ⟨fun h => h⟩
theorem v_prop {C a dx : Addr} {fs : List (Str × V)} (ha : H a = some (.ins C dx fs)) (q : sp [.ref a] H Q E0) : rProp C sp (.ref a) H Q := ⟨a, dx, fs, rfl, ha, q⟩
/-! ### own == with another kind -/
theorem v_ownEqI {C a dx : Addr} {fs : List (Str × V)} (ha : H a = some (.ins C dx fs)) (q : sp [.ref a, .int i] H Q (E σ)) : rOwnEqT C sp E σ (.ref a) (.int i) H Q := ⟨a, dx, fs, rfl, ha, .inl ⟨i, rfl⟩, q⟩
theorem v_ownEqU {C a dx b : Addr} {fs : List (Str × V)} {ys : List V} (ha : H a = some (.ins C dx fs)) (hb : H b = some (.tup ys)) (q : sp [.ref a, .ref b] H Q (E σ)) : rOwnEqT C sp E σ (.ref a) (.ref b) H Q := ⟨a, dx, fs, rfl, ha, .inr ⟨b, ys, rfl, hb⟩, q⟩
theorem v_eqOwnR {C a dx : Addr} {fs : List (Str × V)} (ha : H a = some (.ins C dx fs)) (q : sp [.ref a, .int i] H Q (E σ)) : rEqOwnR C sp E σ (.int i) (.ref a) H Q := ⟨a, dx, fs, i, rfl, rfl, ha, q⟩
/-! ### x, y = e, f -/
def rPar (n m : Nat) (nx : L2.St → Hp → Prop) (σ : L2.St) (vs : List V) (H : Hp) : Prop := ∃ v w, vs = [v, w] ∧ nx ((σ.set n (some v)).set m (some w)) H
instance (priority := high) i_parR : St1 (Run (tPar n m as) nx rt bk ct σ H) (as σ H fun vs H1 => rPar n m nx σ vs H1) := ⟨fun h => h⟩
instance i_parV [a : SetS σ n (some v) σ1] [b : SetS σ1 m (some x) σ2] : St1 (rPar n m nx σ [v, x] H) (nx σ2 H) := ⟨fun h => ⟨v, x, rfl, by rw [a.h, b.h]; exact h⟩⟩
/-! ### while -/
def rWh (m : Nat) (Pv : Nat → L2.St → Hp → Prop) (t : TS) (nx : L2.St → Hp → Prop) (rt : VK) (σ : L2.St) (b : Bool) (H : Hp) : Prop :=
  if b = true then ∃ N : L2.St → Hp → Prop, (∀ σ' H', N σ' H' → ∃ m', m' < m ∧ Pv m' σ' H') ∧ t ⟨N, rt, nx, N⟩ σ H else nx σ H
theorem run_while (Pv : Nat → L2.St → Hp → Prop) (h0 : ∃ m, Pv m σ H) (hs : ∀ m σ H, Pv m σ H → tt σ H fun b H1 => rWh m Pv t nx rt σ b H1) : Run (tWhile tt t) nx rt bk ct σ H := ⟨Pv, h0, hs⟩
instance i_wh {Pv : Nat → L2.St → Hp → Prop} : St1 (rWh m Pv t nx rt σ b H) (Br b (Run t (fun σ' H' => ∃ m', m' < m ∧ Pv m' σ' H') rt nx (fun σ' H' => ∃ m', m' < m ∧ Pv m' σ' H') σ H) (nx σ H)) := ⟨fun h => by
  cases b with
  | true => exact iteT ⟨_, fun _ _ z => z, h⟩
  | false => exact iteF h⟩
end
/-! ### a def with one default -/
theorem funD_mk {K : PySem.W.Frag} {x qual : Str} {st : Stmt} {f T : Addr} {oc oc' : Value} {od an od' : Option Addr} {osl osl' : Array (Option Value)} {kV doc pm cdv ct u : Value} {n : Nat} {v : V} (l : K.lookup f = some ⟨oc, od, .func (PySem.W.fnOf x qual (defArgs st) (defBody st) (defScope st) (.ref T) kV doc pm an cdv ct), osl⟩)
    (c : PySem.W.codeIn K cdv qual = true) (k : PySem.W.keepIn K (.ref f) = true) (lT : K.lookup T = some ⟨oc', od', .seq #[u] n, osl'⟩) (r : RelV v u) :
    FunD K x qual (defArgs st) (defBody st) (defScope st) [v] [] f (PySem.W.fnOf x qual (defArgs st) (defBody st) (defScope st) (.ref T) kV doc pm an cdv ct) :=
  ⟨⟨oc, od, _, kV, doc, pm, an, cdv, ct, osl, rfl, l, c, .inr ⟨by simp, T, _, [u], n, rfl, lT, rfl, .cons r .nil⟩, .inl rfl⟩, k⟩
end GG

/-! GW: i op x, i an int, x an own instance: int declines, the text's own reflected operator is asked. -/
namespace GG
open PySem L2 PyProof.Rows
section
variable {X : Cx} {CX : CXT} {k : Nat} {C f : Addr} {fd : FuncData} {ps : List Str} {sp : Sp} {E : L2.St → XK}
/-- a built-in of int declines an own instance -/
def Declines (C : Addr) (id : String) : Prop := ∀ (prog : Program) (w : World) (A : Around) (s : Shared) (i : Int) (t : Tok) (a : Addr) (Q : Value → Shared → Prop) (E : Value → Shared → Prop) (dx : Addr),
  s.heap.get? a = some (PySem.W.instObj C dx) → Q .notImplemented s → wpAny (model prog w) A (call (.builtin id) [.int i t, .ref a]) Q E s
theorem int_add_own : Declines C "int.__add__" := by
  intro prog w A s i t a Q E dx ho h
  refine wpAny_call (codeAny_call_builtin F.slot_int_add.plain F.entry_int_add (F.slot_int_add.check _ _ _ _ _ _ _ _ (typeIs_int s i t) (F.args_int_add_2 _ _) ?_))
  obtain ⟨hp, g, d, tk, os⟩ := s
  have ho' : hp.get? a = some (PySem.W.instObj C dx) := ho
  unfold PySem.W.instObj at ho'
  wp_walk using wpAny_load ho'
  exact h
theorem int_sub_own : Declines C "int.__sub__" := by
  intro prog w A s i t a Q E dx ho h
  refine wpAny_call (codeAny_call_builtin F.slot_int_sub.plain F.entry_int_sub (F.slot_int_sub.check _ _ _ _ _ _ _ _ (typeIs_int s i t) (F.args_int_sub_2 _ _) ?_))
  obtain ⟨hp, g, d, tk, os⟩ := s
  have ho' : hp.get? a = some (PySem.W.instObj C dx) := ho
  unfold PySem.W.instObj at ho'
  wp_walk using wpAny_load ho'
  exact h
theorem int_mul_own : Declines C "int.__mul__" := by
  intro prog w A s i t a Q E dx ho h
  refine wpAny_call (codeAny_call_builtin F.slot_int_mul.plain F.entry_int_mul (F.slot_int_mul.check _ _ _ _ _ _ _ _ (typeIs_int s i t) (F.args_int_mul_2 _ _) ?_))
  obtain ⟨hp, g, d, tk, os⟩ := s
  have ho' : hp.get? a = some (PySem.W.instObj C dx) := ho
  unfold PySem.W.instObj at ho'
  wp_walk using wpAny_load ho'
  exact h
def IntL (C : Addr) (nm : String) : Prop := ∃ id, Slot "int" (PySem.dunder nm) id ∧ fillsNumberSlot (.type "int") nm = pure true ∧ Declines C id
theorem il_add : IntL C "add" := ⟨_, F.slot_int_add, F.fills_int_add, int_add_own⟩
theorem il_sub : IntL C "sub" := ⟨_, F.slot_int_sub, F.fills_int_sub, int_sub_own⟩
theorem il_mul : IntL C "mul" := ⟨_, F.slot_int_mul, F.fills_int_mul, int_mul_own⟩
theorem Sm.lk {P : Program} {w : World} {K : PySem.W.Frag} {mg : Str → Option Value} {base : Heap} {name : Str} (S : Sm P w K mg base C name k ps sp) : ∃ f, PySem.W.findIn K (.ref C) name = some (some (.ref f)) := by
  obtain ⟨f, fd, F, hs, _⟩ := S.ex
  exact ⟨f, hs⟩
def rIntOwn (C : Addr) (sp : Sp) (E : L2.St → XK) : R2S := fun σ y x H Q => ∃ a dx fs i, y = .int i ∧ x = .ref a ∧ H a = some (.ins C dx fs) ∧ sp [.ref a, .int i] H Q (E σ)
theorem op_intOwn {op : Operator} (S : Sm X.prog X.w X.K X.mg X.base C (dunderR op.info.2) k ps sp) (hr : Room k X.A) (hx : Ps X E) (hc : PySem.W.selfFirst X.K C = true) (hl : ∃ fn, PySem.W.findIn X.K (.ref C) (PySem.dunder op.info.2) = some (some (.ref fn)))
    (hil : IntL C op.info.2) (hsub : PySem.W.subIn X.K (.ref C) (.type "int") = some false) : OpS X (binaryOp op) (rIntOwn C sp E) := by
  intro pins s σ H y x v u Q I ry rx hq
  obtain ⟨f, fd, F, hs, hf, hb⟩ := S.ex
  obtain ⟨fn, hl⟩ := hl
  obtain ⟨id, hsl, hfl, hd⟩ := hil
  obtain ⟨a, dx, fs, i, rfl, rfl, ha, q⟩ := hq
  cases rx
  obtain ⟨t, rfl⟩ := (show ∃ t, v = Value.int i t from ry)
  obtain ⟨_, _, J⟩ := inst_of I ha
  have ho : s.heap.get? a = some (PySem.W.instObj C dx) := (show ObjOk X.prog X.w H s.heap a (.ins C dx fs) from I.hok a _ ha).2.2.2.1
  have XK := I.kIn
  have J' : PySem.W.Looks (model X.prog X.w) s.heap (typeOf (.ref a)) (.ref C) := J.type
  have one := PySem.W.ksp_try (b := .int i t) XK J hs hf (thn (run_at0 (vs := [.ref a, .int i]) F hr rfl hb (hx σ) I (.cons rfl (.cons ⟨t, rfl⟩ .nil)) q) fun _ _ z => cmpBack_ep z)
  obtain ⟨cd, rest, hcd, hm⟩ := PySem.W.ksp_first hc
  rcases hi : op.info with ⟨sym, nm⟩
  rw [hi] at hl hsl hfl one
  dsimp only at hl hsl hfl one
  have two : ∀ Q' : Option Value → Shared → Prop, Q' none s → wpAny (model X.prog X.w) X.A (tryMethod (.int i t) (PySem.dunder nm) (.ref a)) Q' X.xe s := fun Q' q' => wpAny_tryMethod_declines (typeIs_int s i t) hsl (hd _ _ _ s i t a _ _ dx ho ⟨rfl, q'⟩)
  clear q I ha hx ho J
  obtain ⟨hh, g, d, tt, os⟩ := s
  have L1 : PySem.W.Looks (model X.prog X.w) hh (typeOf (.int i t)) (.type "int") := PySem.W.Looks.of_pure rfl
  have L2 : PySem.W.Looks (model X.prog X.w) hh (typeOf (.ref a)) (.ref C) := J'
  have L3 : PySem.W.Looks (model X.prog X.w) hh (fillsNumberSlot (.ref C) nm) true := PySem.W.fills_K XK hcd hm hl
  have L4 : PySem.W.Looks (model X.prog X.w) hh (fillsNumberSlot (.type "int") nm) true := PySem.W.Looks.of_pure hfl
  have L5 : PySem.W.Looks (model X.prog X.w) hh (isSubtype (.ref C) (.type "int")) false := PySem.W.looks_subIn XK hsub
  have L6 : PySem.W.Looks (model X.prog X.w) hh (numberSlotInPython (.type "int") nm) false := PySem.W.Looks.of_pure rfl
  have hne : (Value.type "int" == Value.ref C) = false := rfl
  simp only [binaryOp, hi]
  refine wpAny_holding (wpAny_bind ?_)
  unfold binaryOp1
  refine wpAny_bind (L1.at (wpAny_bind (L2.at (wpAny_bind (L4.at ?_)))))
  simp only [hne, Bool.false_eq_true, if_false]
  ksp_lk
  refine two _ ?_
  ksp_lk
  refine wpAny_mono one (fun r s' hr' => ?_) fun _ _ e => e
  obtain ⟨v, rfl, hq⟩ := hr'
  ksp_lk
  exact hq
/-- x op y, each an instance of the class at C or an int, not both ints -/
def rEither (C : Addr) (sp spR : Sp) (E : L2.St → XK) : R2S := fun σ x y H Q => rOwn C sp E σ x y H Q ∨ (rOwnI C sp E σ x y H Q ∨ rIntOwn C spR E σ x y H Q)
theorem op_either {op : Operator} {k2 : Nat} {ps2 : List Str} {spR : Sp} (S : Sm X.prog X.w X.K X.mg X.base C (PySem.dunder op.info.2) k ps sp) (hr : Room k X.A) (R : Sm X.prog X.w X.K X.mg X.base C (dunderR op.info.2) k2 ps2 spR) (hr2 : Room k2 X.A) (hx : Ps X E)
    (hc : PySem.W.selfFirst X.K C = true) (hi : RightT X.K C "int" op.info.2) (hil : IntL C op.info.2) (hsub : PySem.W.subIn X.K (.ref C) (.type "int") = some false) : OpS X (binaryOp op) (rEither C sp spR E) :=
  (op_own S hr hx hc).or ((op_ownI S hr hx hc hi).or (op_intOwn R hr2 hx hc S.lk hil hsub))
/-- x op y, x an instance of the class at C, y one or an int -/
def rEitherR (C : Addr) (sp : Sp) (E : L2.St → XK) : R2S := fun σ x y H Q => rOwn C sp E σ x y H Q ∨ rOwnI C sp E σ x y H Q
theorem op_eitherR {op : Operator} (S : Sm X.prog X.w X.K X.mg X.base C (PySem.dunder op.info.2) k ps sp) (hr : Room k X.A) (hx : Ps X E)
    (hc : PySem.W.selfFirst X.K C = true) (hi : RightT X.K C "int" op.info.2) : OpS X (binaryOp op) (rEitherR C sp E) := (op_own S hr hx hc).or (op_ownI S hr hx hc hi)
end
section
variable {nx bk ct : L2.St → Hp → Prop} {rt : VK} {σ : L2.St} {H : Hp} {te : TE} {Q : VK} {v x y : V} {E : L2.St → XK} {sp spR : Sp} {i j : Int} {n m : Nat} {C a b dx dy : Addr} {fs gs : List (Str × V)}
theorem v_e1 (ha : H a = some (.ins C dx fs)) (hb : H b = some (.ins C dy gs)) (q : sp [.ref a, .ref b] H Q (E σ)) : rEither C sp spR E σ (.ref a) (.ref b) H Q := .inl ⟨a, dx, fs, b, dy, gs, rfl, ha, rfl, hb, q⟩
theorem v_e2 (ha : H a = some (.ins C dx fs)) (q : sp [.ref a, .int i] H Q (E σ)) : rEither C sp spR E σ (.ref a) (.int i) H Q := .inr (.inl ⟨a, dx, fs, i, rfl, ha, rfl, q⟩)
theorem v_e3 (ha : H a = some (.ins C dx fs)) (q : spR [.ref a, .int i] H Q (E σ)) : rEither C sp spR E σ (.int i) (.ref a) H Q := .inr (.inr ⟨a, dx, fs, i, rfl, rfl, ha, q⟩)
theorem v_er1 (ha : H a = some (.ins C dx fs)) (hb : H b = some (.ins C dy gs)) (q : sp [.ref a, .ref b] H Q (E σ)) : rEitherR C sp E σ (.ref a) (.ref b) H Q := .inl ⟨a, dx, fs, b, dy, gs, rfl, ha, rfl, hb, q⟩
theorem v_er2 (ha : H a = some (.ins C dx fs)) (q : sp [.ref a, .int i] H Q (E σ)) : rEitherR C sp E σ (.ref a) (.int i) H Q := .inr ⟨a, dx, fs, i, rfl, ha, rfl, q⟩
theorem v_iR (ha : H a = some (.ins C dx fs)) (q : sp [.ref a, .int i] H Q (E σ)) : rIntOwn C sp E σ (.int i) (.ref a) H Q := ⟨a, dx, fs, i, rfl, rfl, ha, q⟩
instance i_asg2 : St1 (Run (tAsg2 te (gName n) (gName m)) nx rt bk ct σ H) (te σ H fun x H1 => Kont (fun σ' H' => Kont nx σ' m (some x) H') σ n (some x) H1) := ⟨fun h => h⟩
end
end GG

/-! GH: defs called within an except suite. -/
namespace GG
open PySem L2 PyProof.Rows
/-- a def of the top, as it is called within an except suite -/
structure FnS (P : Program) (w : World) (K : PySem.W.Frag) (mg : Str → Option Value) (base : Heap) (x : Str) (k : Nat) (ps : List Str) (sp : Sp) : Prop where
  ex : ∃ f fd, L2H.FnH P w K mg base (L2N.CX P w) k f fd ps sp ∧ mg x = some (.ref f) ∧ PySem.W.keepIn K (.ref f) = true ∧ L2.Binds K fd ps []
theorem _root_.L2H.RoomH.units {k : Nat} {A : Around} (r : L2H.RoomH k A) : A.units + 64 < cLine := by have := r.un; omega
theorem _root_.L2H.RoomH.units0 {k : Nat} {A : Around} (r : L2H.RoomH k A) : A.units < cLine := by have := r.un; omega
section
variable {X : Cx} {k : Nat} {ps : List Str} {sp : Sp} {E : L2.St → XK} {x : Str} {p pos : Pos} {e : Expr} {es : List Expr} {t : TA}
theorem pe_fnH (F : FnS X.prog X.w X.K X.mg X.base x k ps sp) (hr : L2H.RoomH k X.A) (hc : L2H.HotC X) (hx : Ps X E) (ha : PA X (e :: es) t) (hg : Gl X x := by rfl) (hdb : (x == ("__debug__" : Str)) = false := by decide)
    (he : starEach (e :: es) X.env = (false, eval e X.env) :: starEach es X.env := by rfl) (hpl : (backTo pos (starEach es X.env)).any (·.1) = false := by rfl) :
    PE X (.Call (.Name x p) (e :: es) [] pos) (tCallSD sp [] E t) := by
  obtain ⟨f, fd, F, hm, hk, hb⟩ := F.ex
  refine ⟨fun pins s σ H Q I h => ?_⟩
  refine wpAny_Call_Name_kw (ld_glob I hg hm ?_ hdb)
  refine PySem.W.callWith_K (h₀ := X.base) I.ok.mod.kin hk (thn (ha.run pos pins s σ H _ I h) fun us s1 ⟨vs, H1, I1, r, q⟩ => ⟨I1.kIn, ?_⟩) he hpl
  have q : sp (vs ++ []) H1 Q (E σ) := q
  rw [List.append_nil] at q
  exact L2H.run_fnH (E := E) F hr hc hb (hx σ) I1 r q
/-- the suite bears the exception that is handled -/
theorem hot_suite {a : Addr} {oe : Obj} {cls : Value} {d : Option Addr} {pn : List (Addr × Obj)} (hz : L2N.Zn cls d oe) (hf : ∃ vs, oe.data = .fields vs) : L2H.HotC (X.suite a ((a, oe) :: pn)) := by
  obtain ⟨vs, hd⟩ := hf
  exact ⟨(a, oe), ⟨rfl, vs, hd, hz.2.2 vs hd⟩, List.Mem.head _⟩
theorem room_suite {a : Addr} {j : Nat} {pn : List (Addr × Obj)} (hr : Room k X.A) (h : j ≤ k) : L2H.RoomH j (X.suite a pn).A := L2H.RoomH.mono (k := k) ⟨hr.dp, hr.un⟩ h
theorem hot_def {CX : CXT} {P : Program} {w : World} {K : PySem.W.Frag} {mg : Str → Option Value} {base : Heap} {N : List Str} {qual : Str} {scope : Scope} {f : Addr} {cd : Value} {A : Around} {outer : List Env} {s : Shared} {H : Hp} {E : XK} {p : Addr × Obj} (h : L2H.Hot1 A p) :
    L2H.HotC (L2H.cxH CX P w K mg base N qual scope f cd A outer s H E p) := ⟨p, ⟨h.1, h.2⟩, List.Mem.head _⟩
end
/-! ### a cut behind a statement -/
theorem run_cut {t : TS} {nx bk ct : L2.St → Hp → Prop} {rt : VK} {σ : L2.St} {H : Hp} (P : L2.St → Hp → Prop) (h1 : ∀ nx' : L2.St → Hp → Prop, (∀ σ' H', P σ' H' → nx' σ' H') → Run t nx' rt bk ct σ H) (h2 : ∀ σ' H', P σ' H' → nx σ' H') : Run t nx rt bk ct σ H := h1 nx h2
theorem is_if {tt : TT} {t u : TS} {nx bk ct : L2.St → Hp → Prop} {rt : VK} {σ : L2.St} {H : Hp} (h : Run (tIfS tt t u) nx rt bk ct σ H) : Run (tIfS tt t u) nx rt bk ct σ H := h
/-! ### methods -/
section
variable {σ : L2.St} {H : Hp} {ta : TE} {as : TA} {Q : VK} {E : L2.St → XK} {sp : Sp} {C a dx : Addr} {m : Str} {dvs : List V} {fs : List (Str × V)} {v : V}
def SpM (sp : Sp) (dvs : List V) (a : Addr) (vs : List V) (H : Hp) (Q : VK) (E : XK) : Prop := sp (.ref a :: (vs ++ dvs)) H Q E
def rMt (C : Addr) (m : Str) (sp : Sp) (dvs : List V) (E : L2.St → XK) (as : TA) (σ : L2.St) (x : V) (H : Hp) (Q : VK) : Prop := ∃ a dx fs, x = .ref a ∧ H a = some (.ins C dx fs) ∧ fs.lookup m = none ∧ as σ H fun vs H2 => SpM sp dvs a vs H2 Q (E σ)
instance i_mt : St1 (tMtS C m sp dvs E ta as σ H Q) (ta σ H fun x H1 => rMt C m sp dvs E as σ x H1 Q) := ⟨fun h => h⟩
theorem v_mt (ha : H a = some (.ins C dx fs)) (hl : fs.lookup m = none) (q : as σ H fun vs H2 => SpM sp dvs a vs H2 Q (E σ)) : rMt C m sp dvs E as σ (.ref a) H Q := ⟨a, dx, fs, rfl, ha, hl, q⟩
instance i_spM {vs ws : List V} {E : XK} [x : AppV vs dvs ws] : St1 (SpM sp dvs a vs H Q E) (sp (.ref a :: ws) H Q E) := ⟨fun h => by unfold SpM; rw [x.h]; exact h⟩
end
end GG

namespace GM
theorem fmod_eq (x y : Int) : x.fmod y = x - y * x.fdiv y := by
  have := Int.mul_fdiv_add_fmod x y
  omega
theorem gcd_fmod (x y : Int) : Int.gcd y (x.fmod y) = Int.gcd x y := by
  rw [fmod_eq, Int.gcd_comm x y]
  exact Int.gcd_sub_mul_left_right y x (x.fdiv y)
theorem fmod_neg (x y : Int) : x.fmod (-y) = -((-x).fmod y) := by
  have h := Int.neg_fmod_neg (a := -x) (b := y)
  rw [Int.neg_neg] at h
  exact h
theorem fmod_lt {x y : Int} (h : y ≠ 0) : (x.fmod y).natAbs < y.natAbs := by
  rcases Int.lt_or_lt_of_ne h with h | h
  · have e := fmod_neg x (-y)
    rw [Int.neg_neg] at e
    have h1 := Int.fmod_nonneg_of_pos (-x) (b := -y) (by omega)
    have h2 := Int.fmod_lt_of_pos (-x) (b := -y) (by omega)
    omega
  · have h1 := Int.fmod_nonneg_of_pos x h
    have h2 := Int.fmod_lt_of_pos x h
    omega
/-- in lowest terms -/
theorem share_math {t b c : Int} (hb : b ≠ 0) (hc : (b < 0 ∧ c = -(Int.gcd t b : Int)) ∨ (0 < b ∧ c = (Int.gcd t b : Int))) :
    c ≠ 0 ∧ c.natAbs ≤ b.natAbs ∧ 0 < b.fdiv c ∧ Int.gcd (t.fdiv c) (b.fdiv c) = 1 ∧ t.fdiv c * b = t * b.fdiv c ∧ (t.fdiv c).natAbs ≤ t.natAbs ∧ (b.fdiv c).natAbs ≤ b.natAbs := by
  have hg : 0 < Int.gcd t b := Int.gcd_pos_of_ne_zero_right t hb
  have hct : c ∣ t := by
    rcases hc with ⟨_, rfl⟩ | ⟨_, rfl⟩
    · exact Int.neg_dvd.mpr (Int.gcd_dvd_left t b)
    · exact Int.gcd_dvd_left t b
  have hcb : c ∣ b := by
    rcases hc with ⟨_, rfl⟩ | ⟨_, rfl⟩
    · exact Int.neg_dvd.mpr (Int.gcd_dvd_right t b)
    · exact Int.gcd_dvd_right t b
  have hca : c.natAbs = Int.gcd t b := by
    rcases hc with ⟨_, rfl⟩ | ⟨_, rfl⟩ <;> simp
  have hc0 : c ≠ 0 := by
    intro z
    rw [z] at hca
    simp at hca
    omega
  obtain ⟨T, rfl⟩ := hct
  obtain ⟨B, rfl⟩ := hcb
  have e1 : (c * T).fdiv c = T := Int.mul_fdiv_cancel_left T hc0
  have e2 : (c * B).fdiv c = B := Int.mul_fdiv_cancel_left B hc0
  rw [e1, e2]
  have hB0 : B ≠ 0 := fun z => hb (by rw [z, Int.mul_zero])
  have h1 : 1 ≤ c.natAbs := by omega
  refine ⟨hc0, ?_, ?_, ?_, ?_, ?_, ?_⟩
  · rw [Int.natAbs_mul]
    exact Nat.le_mul_of_pos_right _ (by omega)
  · rcases hc with ⟨h, e⟩ | ⟨h, e⟩
    · have hcn : c < 0 := by omega
      exact Int.pos_of_mul_neg_right h (by omega) 
    · have hcp : 0 < c := by omega
      exact Int.pos_of_mul_pos_left (by rw [Int.mul_comm]; exact h) hcp
  · rw [Int.gcd_mul_left] at hca
    have : c.natAbs * Int.gcd T B = c.natAbs * 1 := by omega
    exact Nat.eq_of_mul_eq_mul_left h1 this
  · rw [Int.mul_comm c T, Int.mul_assoc, Int.mul_left_comm, ← Int.mul_assoc, Int.mul_comm c T]
  · rw [Int.natAbs_mul]
    exact Nat.le_mul_of_pos_left _ h1
  · rw [Int.natAbs_mul]
    exact Nat.le_mul_of_pos_left _ h1
theorem dvd_cop {a b c : Int} (h : a ∣ b * c) (g : Int.gcd a b = 1) : a ∣ c := by
  have := Int.dvd_gcd_mul_iff_dvd_mul.mpr h
  rw [g] at this
  simpa using this
/-- two fractions in lowest terms are equal only if they are the same -/
theorem share_eq {T B T' B' : Int} (h1 : Int.gcd T B = 1) (h2 : Int.gcd T' B' = 1) (hB : 0 < B) (hB' : 0 < B') (h : T * B' = T' * B) : T = T' ∧ B = B' := by
  have d1 : B ∣ B' := by
    have : B ∣ T * B' := ⟨T', by rw [h, Int.mul_comm]⟩
    exact dvd_cop this (by rw [Int.gcd_comm]; exact h1)
  have d2 : B' ∣ B := by
    have : B' ∣ T' * B := ⟨T, by rw [← h, Int.mul_comm]⟩
    exact dvd_cop this (by rw [Int.gcd_comm]; exact h2)
  have e : B = B' := Int.dvd_antisymm (by omega) (by omega) d1 d2
  subst e
  exact ⟨Int.eq_of_mul_eq_mul_right (by omega) h, rfl⟩
/-- a step of Euclid's: the product falls to a half -/
theorem euclid_half {a b : Int} (hb : 0 < b) (h : b ≤ a) : b * (a % b) * 2 ≤ a * b := by
  have h1 := Int.emod_nonneg a (b := b) (by omega)
  have h2 := Int.emod_lt_of_pos a hb
  have h3 := Int.mul_ediv_add_emod a b
  have h4 : 1 ≤ a / b := by
    exact Int.le_ediv_of_mul_le hb (by omega)
  have h5 : b ≤ b * (a / b) := by
    have := Int.mul_le_mul_of_nonneg_left h4 (show 0 ≤ b by omega)
    omega
  have h6 : a % b * 2 ≤ a := by omega
  have := Int.mul_le_mul_of_nonneg_left h6 (show 0 ≤ b by omega)
  rw [Int.mul_assoc, Int.mul_comm a b]
  exact this
theorem gcd_emod (a b : Int) : Int.gcd b (a % b) = Int.gcd a b := by
  rw [Int.gcd_comm a b]
  have e : a % b = a - b * (a / b) := by
    have := Int.mul_ediv_add_emod a b
    omega
  rw [e]
  exact Int.gcd_sub_mul_left_right b a (a / b)
theorem pow_lt_of {x : Int} {n m : Nat} (hx : 1 ≤ x) (h : x * 2 ^ n < 2 ^ m) : n < m := by
  rcases Nat.lt_or_ge n m with h' | h'
  · exact h'
  · exfalso
    have h1 : (2 : Int) ^ m ≤ 2 ^ n := by
      have := Nat.pow_le_pow_right (show 0 < 2 by decide) h'
      exact_mod_cast this
    have h2 : (0 : Int) < 2 ^ n := Int.pow_pos (by decide)
    have h3 := Int.mul_le_mul_of_nonneg_right hx (Int.le_of_lt h2)
    omega
theorem abs_lt_mul {x y : Int} {m n : Int} (hx : -m < x ∧ x < m) (hy : -n < y ∧ y < n) : -(m * n) < x * y ∧ x * y < m * n := by
  have h1 : x.natAbs < m.natAbs := by omega
  have h2 : y.natAbs < n.natAbs := by omega
  have h3 : (x * y).natAbs < (m * n).natAbs := by
    rw [Int.natAbs_mul, Int.natAbs_mul]
    exact Nat.mul_lt_mul'' h1 h2
  have h4 : 0 ≤ m * n := Int.mul_nonneg (by omega) (by omega)
  omega
/-- the sign -/
theorem sign_of {T B t b : Int} (hB : 0 < B) (h : T * b = t * B) (hb : b ≠ 0) : Int.sign T = Int.sign (t * b) := by
  have e : Int.sign T * Int.sign b = Int.sign t := by
    have := congrArg Int.sign h
    rw [Int.sign_mul, Int.sign_mul, Int.sign_eq_one_of_pos hB, Int.mul_one] at this
    exact this
  rw [Int.sign_mul, ← e, Int.mul_assoc]
  have : Int.sign b * Int.sign b = 1 := by
    rcases Int.lt_or_lt_of_ne hb with h | h
    · rw [Int.sign_eq_neg_one_of_neg h]; rfl
    · rw [Int.sign_eq_one_of_pos h]; rfl
  rw [this, Int.mul_one]
theorem cross {A B1 X B3 b y : Int} (h0 : B1 ≠ 0) (h1 : A * B1 = X * B3) (h2 : X * b = y * B1) : A * b = y * B3 := by
  have h : (A * b) * B1 = (y * B3) * B1 := by
    rw [Int.mul_right_comm, h1, Int.mul_right_comm, h2, Int.mul_right_comm]
  exact Int.eq_of_mul_eq_mul_right h0 h
theorem abs_he {T B t b : Int} (hB : 0 < B) (h : T * b = t * B) : (T.natAbs : Int) * (b.natAbs : Int) = (t.natAbs : Int) * B := by
  have e := congrArg Int.natAbs h
  rw [Int.natAbs_mul, Int.natAbs_mul] at e
  have e2 : ((T.natAbs * b.natAbs : Nat) : Int) = ((t.natAbs * B.natAbs : Nat) : Int) := by rw [e]
  rw [Int.natCast_mul, Int.natCast_mul] at e2
  rw [e2, show ((B.natAbs : Nat) : Int) = B by omega]
/-- a twin with both signs changed -/
theorem twin {T B t b T' B' : Int} (h0 : b ≠ 0) (h1 : T * b = t * B) (h2 : T' * -b = -t * B') : T * B' = T' * B := by
  have h : (T * B') * b = (T' * B) * b := by
    rw [Int.mul_right_comm, h1, Int.mul_right_comm T' B b]
    have : T' * b = t * B' := by
      rw [Int.mul_neg, Int.neg_mul] at h2
      omega
    rw [this, Int.mul_right_comm]
  exact Int.eq_of_mul_eq_mul_right h0 h
theorem same_iff {T B T' B' t b t' b' : Int} (c1 : Int.gcd T B = 1) (c2 : Int.gcd T' B' = 1) (p1 : 0 < B) (p2 : 0 < B') (h0 : b ≠ 0) (h0' : b' ≠ 0) (h1 : T * b = t * B) (h2 : T' * b' = t' * B') : (t * b' = t' * b) ↔ (T = T' ∧ B = B') := by
  constructor
  · intro h
    refine share_eq c1 c2 p1 p2 ?_
    have e : (T * B') * (b * b') = (T' * B) * (b * b') := by
      have a1 : (T * B') * (b * b') = (T * b) * (B' * b') := by
        rw [Int.mul_assoc, Int.mul_assoc]
        congr 1
        rw [← Int.mul_assoc, ← Int.mul_assoc, Int.mul_comm B' b]
      have a2 : (T' * B) * (b * b') = (T' * b') * (B * b) := by
        rw [Int.mul_assoc, Int.mul_assoc]
        congr 1
        rw [Int.mul_comm b b', ← Int.mul_assoc, ← Int.mul_assoc, Int.mul_comm B b']
      rw [a1, a2, h1, h2]
      have a3 : t * B * (B' * b') = (t * b') * (B * B') := by
        rw [Int.mul_assoc, Int.mul_assoc]
        congr 1
        rw [← Int.mul_assoc, Int.mul_comm (B * B') b']
      have a4 : t' * B' * (B * b) = (t' * b) * (B * B') := by
        rw [Int.mul_assoc, Int.mul_assoc]
        congr 1
        rw [← Int.mul_assoc, Int.mul_comm (B' * B) b, Int.mul_comm B' B]
      rw [a3, a4, h]
    exact Int.eq_of_mul_eq_mul_right (Int.mul_ne_zero h0 h0') e
  · rintro ⟨rfl, rfl⟩
    have e : (t * b') * B = (t' * b) * B := by
      rw [Int.mul_right_comm, ← h1, Int.mul_right_comm t' b B, ← h2, Int.mul_right_comm]
    exact Int.eq_of_mul_eq_mul_right (by omega) e
theorem sum_he {T1 B1 T2 B2 a0 a1 b0 b1 : Int} (h1 : T1 * a1 = a0 * B1) (h2 : T2 * b1 = b0 * B2) : (T1 * B2 + T2 * B1) * (a1 * b1) = (a0 * b1 + b0 * a1) * (B1 * B2) := by grind
theorem dif_he {T1 B1 T2 B2 a0 a1 b0 b1 : Int} (h1 : T1 * a1 = a0 * B1) (h2 : T2 * b1 = b0 * B2) : (T1 * B2 - T2 * B1) * (a1 * b1) = (a0 * b1 - b0 * a1) * (B1 * B2) := by grind
theorem mul_he {T1 B1 T2 B2 a0 a1 b0 b1 : Int} (h1 : T1 * a1 = a0 * B1) (h2 : T2 * b1 = b0 * B2) : T1 * T2 * (a1 * b1) = a0 * b0 * (B1 * B2) := by grind
/-- a number of at most k bits -/
def Sz (k : Nat) (x : Int) : Prop := x.natAbs < 2 ^ k
theorem Sz.mono {a b : Nat} {x : Int} (h : Sz a x) (hk : a ≤ b) : Sz b x := Nat.lt_of_lt_of_le h (Nat.pow_le_pow_right (by decide) hk)
theorem Sz.le {k : Nat} {x y : Int} (hx : Sz k x) (h : y.natAbs ≤ x.natAbs) : Sz k y := Nat.lt_of_le_of_lt h hx
theorem Sz.neg {k : Nat} {x : Int} (hx : Sz k x) : Sz k (-x) := by unfold Sz at *; omega
theorem Sz.mul {a b : Nat} {x y : Int} (hx : Sz a x) (hy : Sz b y) : Sz (a + b) (x * y) := by
  unfold Sz at *
  rw [Int.natAbs_mul, Nat.pow_add]
  exact Nat.mul_lt_mul'' hx hy
theorem Sz.add {a : Nat} {x y : Int} (hx : Sz a x) (hy : Sz a y) : Sz (a + 1) (x + y) := by
  unfold Sz at *
  rw [Nat.pow_succ]
  omega
theorem Sz.sub {a : Nat} {x y : Int} (hx : Sz a x) (hy : Sz a y) : Sz (a + 1) (x - y) := by
  unfold Sz at *
  rw [Nat.pow_succ]
  omega
theorem Sz.one {k : Nat} (h : 1 ≤ k) : Sz k 1 := Sz.mono (a := 1) (by unfold Sz; decide) h
theorem Sz.pow {k : Nat} {x : Int} (h1 : 1 ≤ k) (hx : Sz k x) (n : Nat) : Sz (k * n + 1) (x ^ n) := by
  induction n with
  | zero => rw [Int.pow_zero]; exact Sz.one (by omega)
  | succ n ih =>
    rw [Int.pow_succ]
    exact (ih.mul hx).mono (by rw [Nat.mul_succ]; omega)
theorem pow_cop {T B : Int} (h : Int.gcd T B = 1) (n : Nat) : Int.gcd (T ^ n) (B ^ n) = 1 := by rw [Int.pow_gcd_pow, h, Nat.one_pow]
theorem fdiv_abs {x y : Int} (hy : y ≠ 0) : (x.fdiv y).natAbs ≤ x.natAbs := by
  have key : ∀ a b : Int, 0 < b → (a.fdiv b).natAbs ≤ a.natAbs := by
    intro a b hb
    rw [Int.fdiv_eq_ediv_of_nonneg a (by omega)]
    exact Int.natAbs_ediv_le_natAbs a b
  rcases Int.lt_or_lt_of_ne hy with h | h
  · have e := key (-x) (-y) (by omega)
    rw [Int.neg_fdiv_neg] at e
    omega
  · exact key x y h
theorem low_of {T B X Y : Int} (hc : Int.gcd T B = 1) (hB : 0 < B) (hY : Y ≠ 0) (h : T * Y = X * B) : T.natAbs ≤ X.natAbs ∧ B.natAbs ≤ Y.natAbs := by
  have d1 : B ∣ Y := dvd_cop (b := T) ⟨X, by rw [h, Int.mul_comm]⟩ (by rw [Int.gcd_comm]; exact hc)
  have d2 : T ∣ X := dvd_cop (b := B) ⟨Y, by rw [h, Int.mul_comm]⟩ hc
  constructor
  · by_cases hX : X = 0
    · subst hX
      rw [Int.zero_mul] at h
      rcases Int.mul_eq_zero.mp h with h | h
      · rw [h]; decide
      · exact absurd h hY
    · exact Nat.le_of_dvd (by omega) (Int.natAbs_dvd_natAbs.mpr d2)
  · exact Nat.le_of_dvd (by omega) (Int.natAbs_dvd_natAbs.mpr d1)
theorem fmod_mul (x : Int) {y : Int} (hy : y ≠ 0) : 0 ≤ x.fmod y * y := by
  rcases Int.lt_or_lt_of_ne hy with h | h
  · have e := fmod_neg x (-y)
    rw [Int.neg_neg] at e
    have h1 := Int.fmod_nonneg_of_pos (-x) (b := -y) (by omega)
    have h2 : 0 ≤ (-(x.fmod y)) * (-y) := Int.mul_nonneg (by omega) (by omega)
    rw [Int.neg_mul_neg] at h2
    exact h2
  · exact Int.mul_nonneg (Int.fmod_nonneg_of_pos x h) (by omega)
theorem floor_same {x y X Y : Int} (hy : y ≠ 0) (hY : 0 < Y) (h : x * Y = X * y) : x.fdiv y * Y ≤ X ∧ X < (x.fdiv y + 1) * Y := by
  have e1 := Int.mul_fdiv_add_fmod x y
  have e2 : y * (X - x.fdiv y * Y) = x.fmod y * Y := by grind
  have e3 : (x.fdiv y + 1) * Y = x.fdiv y * Y + Y := by grind
  have hl := fmod_lt (x := x) hy
  have hs := fmod_mul x hy
  generalize x.fmod y = r at *
  generalize hD : X - x.fdiv y * Y = D at *
  rw [e3]
  rcases Int.lt_or_lt_of_ne hy with g | g
  · have hr : r ≤ 0 := by
      rcases Int.lt_or_le 0 r with q | q
      · have := Int.mul_neg_of_pos_of_neg q g; omega
      · exact q
    have hrY : r * Y ≤ 0 := Int.mul_nonpos_of_nonpos_of_nonneg hr (by omega)
    have d0 : 0 ≤ D := by
      rcases Int.lt_or_le D 0 with q | q
      · have := Int.mul_pos_of_neg_of_neg g q; omega
      · exact q
    have d1 : D < Y := by
      rcases Int.lt_or_le D Y with q | q
      · exact q
      · have a1 := Int.mul_le_mul_of_nonpos_left (show y ≤ 0 by omega) q
        have a2 := Int.mul_lt_mul_of_pos_right (show y < r by omega) hY
        omega
    omega
  · have hr : 0 ≤ r := by
      rcases Int.lt_or_le r 0 with q | q
      · have := Int.mul_neg_of_neg_of_pos q g; omega
      · exact q
    have hrY : 0 ≤ r * Y := Int.mul_nonneg hr (by omega)
    have d0 : 0 ≤ D := by
      rcases Int.lt_or_le D 0 with q | q
      · have := Int.mul_neg_of_pos_of_neg g q; omega
      · exact q
    have d1 : D < Y := by
      rcases Int.lt_or_le D Y with q | q
      · exact q
      · have a1 := Int.mul_le_mul_of_nonneg_left q (show 0 ≤ y by omega)
        have a2 := Int.mul_lt_mul_of_pos_right (show r < y by omega) hY
        omega
    omega
theorem mod_sign {T B X b b' t' b0 b1 : Int} (hb : 0 < b) (hb' : 0 < b') (hB : 0 < B) (h1 : T * (b * b') = X * B) (h2 : t' * b1 = b0 * b') (hX : 0 ≤ X * (b * t')) : 0 ≤ T * b0 * b1 := by
  have e : T * b0 * b1 * (b' * (b * b') * b) = (X * (b * t')) * B * (b1 * b1) := by grind
  have p : 0 < b' * (b * b') * b := Int.mul_pos (Int.mul_pos hb' (Int.mul_pos hb hb')) hb
  have q : 0 ≤ (X * (b * t')) * B * (b1 * b1) := Int.mul_nonneg (Int.mul_nonneg hX (by omega)) (by
    rcases Int.lt_or_le b1 0 with z | z
    · exact Int.le_of_lt (Int.mul_pos_of_neg_of_neg z z)
    · exact Int.mul_nonneg z z)
  rcases Int.lt_or_le (T * b0 * b1) 0 with z | z
  · have := Int.mul_neg_of_neg_of_pos z p; omega
  · exact z
theorem mod_abs {T B X b b' t' b0 b1 : Int} (hb : 0 < b) (hb' : 0 < b') (hB : 0 < B) (h0 : b1 ≠ 0) (h1 : T * (b * b') = X * B) (h2 : t' * b1 = b0 * b') (hX : X.natAbs < (b * t').natAbs) : (T * b1).natAbs < (b0 * B).natAbs := by
  have e1 := congrArg Int.natAbs h1
  have e2 := congrArg Int.natAbs h2
  rw [Int.natAbs_mul, Int.natAbs_mul, Int.natAbs_mul] at e1
  rw [Int.natAbs_mul, Int.natAbs_mul] at e2
  rw [Int.natAbs_mul] at hX
  rw [Int.natAbs_mul, Int.natAbs_mul]
  have pb : 0 < b.natAbs := by omega
  have pb' : 0 < b'.natAbs := by omega
  have pB : 0 < B.natAbs := by omega
  have p1 : 0 < b1.natAbs := by omega
  generalize b.natAbs = b at *
  generalize b'.natAbs = c at *
  generalize B.natAbs = B at *
  generalize b1.natAbs = p at *
  generalize T.natAbs = T at *
  generalize X.natAbs = X at *
  generalize t'.natAbs = t at *
  generalize b0.natAbs = o at *
  have h3 : X * (B * p * c) < b * t * (B * p * c) := Nat.mul_lt_mul_of_pos_right hX (Nat.mul_pos (Nat.mul_pos pB p1) pb')
  have e3 : T * p * (b * c * c) = X * (B * p * c) := by grind
  have e4 : o * B * (b * c * c) = b * t * (B * p * c) := by grind
  exact Nat.lt_of_mul_lt_mul_right (a := b * c * c) (by omega)
theorem mod_he {t b t' b' q T2 B2 T B : Int} (hB2 : B2 ≠ 0) (hb : b ≠ 0) (h1 : T2 * (b' * 1) = t' * q * B2) (h2 : T * (b * B2) = (t * B2 - T2 * b) * B) : T * (b * b') = (t * b' - b * t' * q) * B := by
  refine cross (B1 := b * B2) (Int.mul_ne_zero hb hB2) h2 ?_
  grind
theorem rest_he {t b t' b' q a0 a1 b0 b1 : Int} (h1 : t * a1 = a0 * b) (h2 : t' * b1 = b0 * b') : (t * b' - b * t' * q) * (a1 * b1) = (a0 * b1 - q * b0 * a1) * (b * b') := by grind
theorem over_he {t b t' b' a0 a1 b0 b1 : Int} (h1 : t * a1 = a0 * b) (h2 : t' * b1 = b0 * b') : t * b' * (a1 * b0) = a0 * b1 * (b * t') := by grind
end GM

/-! GR: classes whose __init__ takes *args. -/
namespace GG
open PySem L2 PyProof.Rows
theorem cxUpN {P : Program} {w : World} : StX.CXUp (L2N.CX P w) := by
  rintro outer s H s2 H2 E e s' un kp ho ⟨a, B, H', cls, d, ea, fl, hok, ub, na, os, ag, he⟩
  refine ⟨a, B, H', cls, d, ea, fl, hok, ⟨fun b o q n hb => ub.keep b o (kp b o q) (un.free b o q n (by simp)) hb, fun b o q hb => ub.slot b o (kp b o q) hb, fun b o q n => ub.free b o (kp b o q) (un.free b o q n (by simp)),
    fun b o q hb => ub.there b o (kp b o q) hb, fun b xs q => ub.tups b xs (un.tups b xs q), fun b o xs q => ub.frzs b o xs (un.frzs b o xs q), fun b ps q => ?_⟩, na, os.trans ho, ag, he⟩
  obtain ⟨m1, e1⟩ := un.tbls b ps q
  obtain ⟨m2, e2⟩ := ub.tbls b _ e1
  exact ⟨m1 ++ m2, by rw [e2, Array.append_assoc]⟩
/-- the promise of a def with one parameter and *args, told of what is passed -/
def star1 (sp : Sp) : Sp := fun vs H Q E => ∃ ws rest, vs = ws ++ rest ∧ ws.length = 1 ∧ rest.length ≤ sizeLine ∧ ∀ p, H p = Option.none → sp (ws ++ [V.ref p]) (upd H p (.tup rest)) Q E
theorem Fun.okStar {P : Program} {w : World} {K : PySem.W.Frag} {mg : Str → Option Value} {base : Heap} {x qual : Str} {st : Stmt} {f : Addr} {fd : FuncData} {N : List Str} {p1 pv : Str} {k : Nat} {sp : Sp} (F : Fun K x qual st f fd) (S : FnScope N ([p1] ++ [pv]) (defScope st))
    (h0 : ∀ (kV doc pm : Value) (an : Option Addr) (cdv ct a : Value), bindArgs (PySem.W.fnOf x qual (defArgs st) (defBody st) (defScope st) .none kV doc pm an cdv ct) ⟨[a], []⟩ = (newTuple [] >>= fun t => pure [(p1, a), (pv, t)]))
    (h1 : ∀ (kV doc pm : Value) (an : Option Addr) (cdv ct a r : Value) (rs : List Value), bindArgs (PySem.W.fnOf x qual (defArgs st) (defBody st) (defScope st) .none kV doc pm an cdv ct) ⟨a :: r :: rs, []⟩ = (newTuple (r :: rs) >>= fun t => pure [(p1, a), (pv, t)]))
    (hbody : ∀ (cdv : Value) (A : Around) (outer : List Env) (s : Shared) (H : Hp) (vs : List V) (Q : VK) (E : XK), Room k (A.deeper (envOfC qual (defScope st) s.heap.objs.size f cdv)) → sp vs H Q E →
      ∃ t, PSs (cxOf (L2N.CX P w) P w K mg base N qual (defScope st) f cdv A outer s H E) (defBody st) t ∧ t { nx := fun _ H' => Q .non H', rt := Q } (start N vs) H) : FnR P w K mg base (L2N.CX P w) (k + 1) f (star1 sp) := by
  obtain ⟨oc, od, kV, doc, pm, an, cdv, ct, osl, rfl, lk, hcd⟩ := F.ex
  refine StX.fn_star (ps := [p1]) (pv := pv) lk hcd S cxUpN (fun us rest hl => ?_) fun A outer s H vs Q E hr hsp => hbody cdv A outer s H vs Q E hr hsp
  match us, hl with
  | [a], _ =>
    cases rest with
    | nil => exact h0 kV doc pm an cdv ct a
    | cons r rs => exact h1 kV doc pm an cdv ct a r rs
/-- the class x, at C, is made by its __init__ with *args -/
structure McR (P : Program) (w : World) (K : PySem.W.Frag) (mg : Str → Option Value) (base : Heap) (x : Str) (C : Addr) (k : Nat) (sp : Sp) : Prop where
  ex : ∃ f, FnR P w K mg base (L2N.CX P w) k f (star1 sp) ∧ Mk K C f ∧ mg x = some (.ref C)
def rMkR (C : Addr) (sp : Sp) (E : XK) (vs : List V) (H : Hp) (Q : VK) : Prop := ∀ x dx, H x = Option.none → H dx = Option.none → dx ≠ x →
  star1 sp (V.ref x :: vs) (upd (upd H dx (.own x)) x (.ins C dx [])) (fun v H2 => v = .non ∧ Q (.ref x) H2) E
def tMkR (C : Addr) (sp : Sp) (E : L2.St → XK) (t : TA) : TE := fun σ H Q => t σ H fun vs H1 => rMkR C sp (E σ) vs H1 Q
def rStar (K : PySem.W.Frag) (C : Addr) (sp : Sp) (E : XK) (y : V) (H : Hp) (Q : VK) : Prop := ∃ a xs, y = V.ref a ∧ (SqT K H a xs ∨ SqL K H a xs) ∧ rMkR C sp E xs H Q
def tMkRS (K : PySem.W.Frag) (C : Addr) (sp : Sp) (E : L2.St → XK) (te : TE) : TE := fun σ H Q => te σ H fun y H1 => rStar K C sp (E σ) y H1 Q
section
variable {X : Cx} {k : Nat} {C f : Addr} {sp : Sp} {E : L2.St → XK} {x : Str} {p pos p2 : Pos} {e : Expr} {es : List Expr} {te : TE} {t : TA}
theorem run_mkR {pins : List (Addr × Obj)} {σ : L2.St} {H : Hp} {s : Shared} {Q : VK} {us : List Value} {vs : List V} (M : Mk X.K C f) (F : FnR X.prog X.w X.K X.mg X.base (L2N.CX X.prog X.w) k f (star1 sp)) (hr : Room (k + 1) X.A) (hx : Ps X E) (I : L2.Inv X pins σ H s) (r : Vals vs us)
    (h : rMkR C sp (E σ) vs H Q) : wpAny (model X.prog X.w) X.A (call (.ref C) us) (EP X pins σ Q) X.xe s := by
  have hq := h (s.heap.objs.size + 1) s.heap.objs.size (I.hok.fresh (Nat.le_succ _)) (I.hok.fresh (Nat.le_refl _)) (Nat.ne_of_lt (Nat.lt_succ_self _))
  have I2 := Inv.made (C := C) I
  have r2 : Vals (V.ref (s.heap.objs.size + 1) :: vs) (Value.ref (s.heap.objs.size + 1) :: us) := .cons rfl r
  refine wpAny_call (make_map (f := f) I.kIn M.makes M.init (beq_iff_eq.mp M.fn) (codeAny_mono (F _ X.stack _ _ (Value.ref (s.heap.objs.size + 1) :: us) _ _ (E σ) (hr.make C us []) (I2.env0.make C us []) r2 hq) fun r s' hq' => ?_))
  cases r with
  | error e => exact hx σ pins _ _ e s' I2 hq'
  | ok fl =>
    cases fl with
    | ret u =>
      obtain ⟨v, H', I3, rv, ev, q3⟩ := I2.after hq'
      subst ev
      exact ⟨rv, ⟨V.ref (s.heap.objs.size + 1), H', I3, rfl, q3⟩⟩
    | next => exact False.elim hq'
    | brk => exact False.elim hq'
    | cont => exact False.elim hq'
/-- C(e, ..) -/
theorem pe_mkR (M : McR X.prog X.w X.K X.mg X.base x C k sp) (hr : Room (k + 1) X.A) (hx : Ps X E) (ha : PA X (e :: es) t) (hg : Gl X x := by rfl) (hdb : (x == ("__debug__" : Str)) = false := by decide)
    (he : starEach (e :: es) X.env = (false, eval e X.env) :: starEach es X.env := by rfl) (hpl : (backTo pos (starEach es X.env)).any (·.1) = false := by rfl) : PE X (.Call (.Name x p) (e :: es) [] pos) (tMkR C sp E t) := by
  obtain ⟨f, F, M, hm⟩ := M.ex
  refine ⟨fun pins s σ H Q I h => ?_⟩
  refine wpAny_Call_Name_kw (ld_glob I hg hm ?_ hdb)
  refine PySem.W.callWith_K (h₀ := X.base) I.ok.mod.kin M.kp (thn (ha.run pos pins s σ H _ I h) fun us s1 ⟨vs, H1, I1, r, q⟩ => ⟨I1.kIn, ?_⟩) he hpl
  exact run_mkR M F hr hx I1 r q
/-- C() -/
theorem pe_mkR0 (M : McR X.prog X.w X.K X.mg X.base x C k sp) (hr : Room (k + 1) X.A) (hx : Ps X E) (hg : Gl X x := by rfl) (hdb : (x == ("__debug__" : Str)) = false := by decide) : PE X (.Call (.Name x p) [] [] pos) (tMkR C sp E tNil) := by
  obtain ⟨f, F, M, hm⟩ := M.ex
  refine ⟨fun pins s σ H Q I h => ?_⟩
  refine wpAny_Call_Name_kw (ld_glob I hg hm ?_ hdb)
  exact PySem.W.callWith_K0 I.kIn M.kp (run_mkR (us := []) (vs := []) M F hr hx I .nil h)
/-- C(*e) -/
theorem pe_mkRS (M : McR X.prog X.w X.K X.mg X.base x C k sp) (hr : Room (k + 1) X.A) (hx : Ps X E) (he : PE X e te) (hg : Gl X x := by rfl) (hdb : (x == ("__debug__" : Str)) = false := by decide)
    (hst : starEach [.Starred e p2] X.env = [(true, eval e X.env)] := by rfl) : PE X (.Call (.Name x p) [.Starred e p2] [] pos) (tMkRS X.K C sp E te) := by
  obtain ⟨f, F, M, hm⟩ := M.ex
  refine ⟨fun pins s σ H Q I h => ?_⟩
  refine wpAny_Call_Name_kw (ld_glob I hg hm ?_ hdb)
  refine PySem.W.callWith_S (h₀ := X.base) I.ok.mod.kin M.kp (thn (he.run pins s σ H _ I h) fun v s1 ⟨y, H1, I1, ry, a, xs, ey, hxs, q⟩ => ?_) hst
  subst ey
  obtain rfl : v = Value.ref a := ry
  exact StX.star_any I1 hxs fun us s2 I2 rv => ⟨I2.kIn, run_mkR M F hr hx I2 rv q⟩
end
section
variable {K : PySem.W.Frag} {σ : L2.St} {H : Hp} {te : TE} {as : TA} {Q : VK} {E : L2.St → XK} {sp : Sp} {C a : Addr} {xs : List V}
instance i_mkR : St1 (tMkR C sp E as σ H Q) (as σ H fun vs H1 => rMkR C sp (E σ) vs H1 Q) := ⟨fun h => h⟩
instance i_mkRS : St1 (tMkRS K C sp E te σ H Q) (te σ H fun y H1 => rStar K C sp (E σ) y H1 Q) := ⟨fun h => h⟩
theorem v_starL {E : XK} (ha : H a = some (.lst xs)) (q : rMkR C sp E xs H Q) : rStar K C sp E (.ref a) H Q := ⟨a, xs, rfl, .inr (SqL.of ha), q⟩
end
end GG

/-! GZ: list(zip(a, b)) of two tuples. -/
namespace GG
open PySem PySem.Spec L2 PyProof.Rows
open PySem.Sem (wp)
section
variable {prog : Program} {w : World} {A : Around} {E : Value → Shared → Prop} {s : Shared} {z TI TO T i1 i2 l1 l2 : Addr} {f : Bool} {oT : Obj} {k1 k2 : Nat} {xs ys : Array Value}
theorem zheld_item {x y : Value} {Q : Value → Shared → Prop} (D : ZipApart z TI TO i1 i2 l1 l2) (hz : IsZipHeld s.heap z TI TO T f) (hT : s.heap.get? T = some oT) (hTI : IsPair s.heap TI (.ref i1) (.ref i2)) (h1 : s.heap.IsTupleIter i1 l1 k1) (h2 : s.heap.IsTupleIter i2 l2 k2)
    (hl1 : s.heap.IsTuple l1 xs) (hl2 : s.heap.IsTuple l2 ys) (hx : xs[k1]? = some x) (hy : ys[k2]? = some y)
    (hQ : ∀ h', IsZipHeld h' z TI TO T true → h'.IsTupleIter i1 l1 (k1 + 1) → h'.IsTupleIter i2 l2 (k2 + 1) → IsPair h' s.heap.objs.size x y → (∀ c o, c ≠ z → c ≠ i1 → c ≠ i2 → s.heap.get? c = some o → h'.get? c = some o) → Q (.ref s.heap.objs.size) { s with heap := h' }) :
    wpAny (model prog w) A (Builtin.«zip.__next__» ⟨[.ref z], []⟩) (fun fin s' => ∃ v, fin = .done (.ret v) ∧ Q v s') E s := by
  refine wpAny_bind (m := field (.ref z) 2) (wpAny_field hz rfl (x := .bool false) rfl (wpAny_bind (m := field (.ref z) 3) (wpAny_field hz rfl (x := .ref TI) rfl (wpAny_bind (wpAny_seqItems hTI rfl ?_)))))
  refine wpAny_bind (m := Builtin.SmallTypes.ownedTupleIsFree (.ref z)) (wpAny_tupleHeld_zip hz hT fun ha hza sa => ?_)
  rw [if_neg Bool.false_ne_true]
  refine wpAny_bind ?_
  rw [← Array.forIn_toList]; simp only [List.forIn_cons, List.forIn_nil]
  refine wpAny_bind (wpAny_bind (wpAny_holding (wpAny_bind (m := Builtin.SmallTypes.nextOf (.ref i1)) (RZ.nextOf_tuple_item (s := { s with heap := ha }) (h1.extBut sa.extBut D.i1z) (hl1.extBut sa.extBut D.l1z) hx fun hb i1b sb => wpAny_pure (wpAny_pure ?_)))))
  refine wpAny_bind (wpAny_bind (wpAny_holding (wpAny_bind (m := Builtin.SmallTypes.nextOf (.ref i2)) (RZ.nextOf_tuple_item (s := { s with heap := hb }) ((h2.extBut sa.extBut D.i2z).extBut sb.extBut D.i12.symm) ((hl2.extBut sa.extBut D.l2z).extBut sb.extBut D.l2i1) hy fun hd i2d sd => wpAny_pure (wpAny_pure (wpAny_pure ?_))))))
  refine wpAny_bind (m := newTuple [x, y]) (wpAny_newTuple (wpAny_pure ⟨_, rfl, ?_⟩))
  have sz : hd.objs.size = s.heap.objs.size := by rw [sd.1, sb.1, sa.1]
  have new : IsPair (hd.push { cls := .type "tuple", data := .seq #[x, y] }) hd.objs.size x y := Heap.get?_push_size _ rfl
  show Q (.ref hd.objs.size) _
  rw [sz] at new ⊢
  exact hQ _ (Heap.get?_push_of_some _ (sd.extBut _ _ D.i2z.symm (sb.extBut _ _ D.i1z.symm hza))) ((i1b.extBut sd.extBut D.i12).at fun o e => Heap.get?_push_of_some _ e) (i2d.at fun o e => Heap.get?_push_of_some _ e) new
    fun c o n1 n2 n3 e => Heap.get?_push_of_some _ (sd.extBut _ _ n3 (sb.extBut _ _ n2 (sa.extBut _ _ n1 e)))
theorem zheld_end {Q : Fin → Shared → Prop} (hh : A.handled = none) (D : ZipApart z TI TO i1 i2 l1 l2) (hz : IsZipHeld s.heap z TI TO T f) (hT : s.heap.get? T = some oT) (hTI : IsPair s.heap TI (.ref i1) (.ref i2)) (h1 : s.heap.IsTupleIter i1 l1 k1) (hl1 : s.heap.IsTuple l1 xs) (hx : xs[k1]? = none)
    (hE : ∀ h' e, (∀ c o, c ≠ z → c ≠ i1 → s.heap.get? c = some o → h'.get? c = some o) → (∃ o, h'.get? e = some o ∧ o.cls = .type "StopIteration") → E (.ref e) { s with heap := h' }) :
    wpAny (model prog w) A (Builtin.«zip.__next__» ⟨[.ref z], []⟩) Q E s := by
  refine wpAny_bind (m := field (.ref z) 2) (wpAny_field hz rfl (x := .bool false) rfl (wpAny_bind (m := field (.ref z) 3) (wpAny_field hz rfl (x := .ref TI) rfl (wpAny_bind (wpAny_seqItems hTI rfl ?_)))))
  refine wpAny_bind (m := Builtin.SmallTypes.ownedTupleIsFree (.ref z)) (wpAny_tupleHeld_zip hz hT fun ha hza sa => ?_)
  rw [if_neg Bool.false_ne_true]
  refine wpAny_bind ?_
  rw [← Array.forIn_toList, List.forIn_cons]
  refine wpAny_bind (wpAny_bind (wpAny_holding (wpAny_bind (m := Builtin.SmallTypes.nextOf (.ref i1)) (RZ.nextOf_tuple_end (s := { s with heap := ha }) hh (h1.extBut sa.extBut D.i1z) (hl1.extBut sa.extBut D.l1z) hx fun hb e sb he => ?_))))
  exact hE hb e (fun c o n1 n2 q => sb _ _ n2 (sa.extBut _ _ n1 q)) he
/-- the zip stands at turn k: it has given out nothing yet, or what it gave is still there -/
def ZAt (h : Heap) (q z TI TO i1 i2 l1 l2 : Addr) (k : Nat) : Prop :=
  ((IsZip h z TI TO .none ∧ ∃ x y, IsPair h TO x y) ∨ ∃ T f oT, IsZipHeld h z TI TO T f ∧ h.get? T = some oT ∧ T ≠ z ∧ T ≠ i1 ∧ T ≠ i2 ∧ T ≠ q) ∧ IsPair h TI (.ref i1) (.ref i2) ∧ h.IsTupleIter i1 l1 k ∧ h.IsTupleIter i2 l2 k
theorem ZAt.keep {h h' : Heap} {k : Nat} {q : Addr} (Z : ZAt h q z TI TO i1 i2 l1 l2 k) (n : q ∉ [z, TI, TO, i1, i2]) (e : ∀ c o, c ≠ q → h.get? c = some o → h'.get? c = some o) : ZAt h' q z TI TO i1 i2 l1 l2 k := by
  obtain ⟨a, b, c, d⟩ := Z
  have m : ∀ c ∈ [z, TI, TO, i1, i2], c ≠ q := fun c hc r => n (r ▸ hc)
  refine ⟨?_, e _ _ (m _ (by simp)) b, c.at (fun o r => e _ _ (m _ (by simp)) r), d.at (fun o r => e _ _ (m _ (by simp)) r)⟩
  rcases a with ⟨a, x, y, p⟩ | ⟨T, f, oT, a, p, r⟩
  · exact .inl ⟨e _ _ (m _ (by simp)) a, x, y, e _ _ (m _ (by simp)) p⟩
  · exact .inr ⟨T, f, oT, e _ _ (m _ (by simp)) a, e _ _ r.2.2.2 p, r⟩
theorem ZAt.upd {h : Heap} {k : Nat} {q : Addr} {f : Obj → Obj} (Z : ZAt h q z TI TO i1 i2 l1 l2 k) (n : q ∉ [z, TI, TO, i1, i2]) : ZAt (h.update q f) q z TI TO i1 i2 l1 l2 k := Z.keep n fun c o m r => ((Heap.SameBut.update ..).2 c m).trans r
theorem znext_item {k : Nat} {q : Addr} {x y : Value} {Q : Option Value → Shared → Prop} (hq : q < s.heap.objs.size) (D : ZipApart z TI TO i1 i2 l1 l2) (Z : ZAt s.heap q z TI TO i1 i2 l1 l2 k) (hl1 : s.heap.IsTuple l1 xs) (hl2 : s.heap.IsTuple l2 ys) (hx : xs[k]? = some x) (hy : ys[k]? = some y)
    (hQ : ∀ h', ZAt h' q z TI TO i1 i2 l1 l2 (k + 1) → IsPair h' s.heap.objs.size x y → (∀ c o, c ∉ [z, TI, TO, i1, i2] → s.heap.get? c = some o → h'.get? c = some o) → Q (some (.ref s.heap.objs.size)) { s with heap := h' }) :
    wpAny (model prog w) A (pyNext (.ref z)) Q E s := by
  obtain ⟨a, hTI, h1, h2⟩ := Z
  obtain ⟨o1, e1, _⟩ := id h1
  obtain ⟨o2, e2, _⟩ := id h2
  have g1 : s.heap.objs.size ≠ i1 := Nat.ne_of_gt (Heap.lt_size e1)
  have g2 : s.heap.objs.size ≠ i2 := Nat.ne_of_gt (Heap.lt_size e2)
  rcases a with ⟨hz, u, v, hTO⟩ | ⟨T, f, oT, hz, hT, n1, n2, n3, n4⟩
  · have g0 : s.heap.objs.size ≠ z := Nat.ne_of_gt (Heap.lt_size hz)
    refine RZ.pyNext_zipT_item D hz hTI hTO h1 h2 hl1 hl2 hx hy fun h' z' TO' a1 a2 p sz k' => ?_
    exact hQ h' ⟨.inr ⟨_, false, _, z', p, g0, g1, g2, Nat.ne_of_gt hq⟩, k' _ _ D.TIz D.TITO D.TIi1 D.TIi2 hTI, a1, a2⟩ p fun c o n q => k' c o (fun e => n (by simp [e])) (fun e => n (by simp [e])) (fun e => n (by simp [e])) (fun e => n (by simp [e])) q
  · have g0 : s.heap.objs.size ≠ z := Nat.ne_of_gt (Heap.lt_size hz)
    have ty : s.TypeIs (.ref z) "zip" := ⟨_, hz, rfl⟩
    unfold pyNext
    refine wpAny_bind (wpAny_attempt (wpAny_callSpecial?_slot (name := Str.ofString "__next__") ty F.slot_zip_next (wpAny_call_entry F.slot_zip_next ty F.entry_zip_next (zheld_item D hz hT hTI h1 h2 hl1 hl2 hx hy fun h' z' a1 a2 p k' => wpAny_pure ?_) (F.args_zip_next_1 _))))
    exact hQ h' ⟨.inr ⟨T, true, oT, z', k' T _ n1 n2 n3 hT, n1, n2, n3, n4⟩, k' _ _ D.TIz D.TIi1 D.TIi2 hTI, a1, a2⟩ p fun c o n q => k' c o (fun e => n (by simp [e])) (fun e => n (by simp [e])) (fun e => n (by simp [e])) q
theorem znext_end {k : Nat} {q : Addr} {Q : Option Value → Shared → Prop} (hh : A.handled = none) (D : ZipApart z TI TO i1 i2 l1 l2) (Z : ZAt s.heap q z TI TO i1 i2 l1 l2 k) (hl1 : s.heap.IsTuple l1 xs) (hl2 : s.heap.IsTuple l2 ys) (hx : xs[k]? = none)
    (hQ : ∀ h', (∀ c o, c ∉ [z, TI, TO, i1, i2] → s.heap.get? c = some o → h'.get? c = some o) → Q none { s with heap := h' }) : wpAny (model prog w) A (pyNext (.ref z)) Q E s := by
  obtain ⟨a, hTI, h1, h2⟩ := Z
  rcases a with ⟨hz, u, v, hTO⟩ | ⟨T, f, oT, hz, hT, n1, n2, n3, n4⟩
  · exact RZ.pyNext_zipT_end hh D hz hTI hTO h1 h2 hl1 hl2 (.inl hx) fun h' k' => hQ h' fun c o n q => k' c o (fun e => n (by simp [e])) (fun e => n (by simp [e])) (fun e => n (by simp [e])) (fun e => n (by simp [e])) q
  · have ty : s.TypeIs (.ref z) "zip" := ⟨_, hz, rfl⟩
    unfold pyNext
    refine wpAny_bind (wpAny_attempt (wpAny_callSpecial?_slot (name := Str.ofString "__next__") ty F.slot_zip_next (wpAny_call_entry F.slot_zip_next ty F.entry_zip_next (zheld_end hh D hz hT hTI h1 hl1 hx fun h' e k' he => ?_) (F.args_zip_next_1 _))))
    obtain ⟨o, ho, hc⟩ := he
    exact wpAny_bind (wpAny_isInstance (T := "StopIteration") (b := true) ⟨o, ho, hc⟩ isSubtype_stop (wpAny_pure (hQ _ fun c o n q => k' c o (fun e => n (by simp [e])) (fun e => n (by simp [e])) q)))
end
/-- no length is told of a zip -/
theorem zip_hint {M : Model} {A : Around} {E : Value → Shared → Prop} {Q : Bool → Shared → Prop} {s : Shared} {z : Addr} (hz : s.TypeIs (.ref z) "zip") (h : Q true s) : wpAny M A (Builtin.List.listLengthHint (.ref z)) Q E s := by
  have n1 : typeLookup (.type "zip") "__len__" = pure none := am_miss_of_fast (by decide +kernel)
  have n2 : typeLookup (.type "zip") "__length_hint__" = pure none := am_miss_of_fast (by decide +kernel)
  unfold Builtin.List.listLengthHint
  refine wpAny_bind (wpAny_bind (wpAny_typeOf hz ?_))
  rw [n1]
  refine wpAny_pure ?_
  refine PySem.W.KFB.if_not rfl (PySem.W.KFB.if_not rfl ?_)
  refine wpAny_bind (wpAny_bind (wpAny_typeOf hz ?_))
  rw [n2]
  exact wpAny_pure (wpAny_pure h)
theorem Ext.sqT {K : PySem.W.Frag} {H H' : Hp} {a : Addr} {xs : List V} (e : Ext H H') (h : SqT K H a xs) : SqT K H' a xs := by
  rcases h with h | h
  · rcases h with h | ⟨o, h⟩
    · exact .inl (.inl (e _ _ h))
    · exact .inl (.inr ⟨o, e _ _ h⟩)
  · exact .inr h
section
variable {X : Cx} {pins : List (Addr × Obj)} {σ : L2.St} {A1 : Around} {z TI TO i1 i2 a b q : Addr} {xs ys : List V} {Rs : Result → Shared → Prop}
theorem zip_loop (hc : A1.in1.handled = none) (D : ZipApart z TI TO i1 i2 a b) (hlen : xs.length = ys.length) (hsz : xs.length < sizeLine) {H0 : Hp} (hq0 : H0 q = none) (ha0 : SqT X.K H0 a xs) (hb0 : SqT X.K H0 b ys) (hqz : q ∉ [z, TI, TO, i1, i2])
    (hdone : ∀ ts H s, Inv X pins σ H s → Ext H0 H → H q = some (.lst (ts.map V.ref)) → Paired (fun t (p : V × V) => H t = some (.tup [p.1, p.2])) ts (xs.zip ys) → Rs (.ok (.ret .none)) s) :
    ∀ (m i : Nat) (ts : List Addr) (H : Hp) (s : Shared), m + i = xs.length → Inv X pins σ H s → ZAt s.heap q z TI TO i1 i2 a b i → (∀ c ∈ [z, TI, TO, i1, i2], FpOk X pins H c) → Ext H0 H → (∀ c ∈ [z, TI, TO, i1, i2], c < s.heap.objs.size) → H q = some (.lst (ts.map V.ref)) → ts.length = i → 
      Paired (fun t (p : V × V) => H t = some (.tup [p.1, p.2])) ts ((xs.zip ys).take i) → codeAny (model X.prog X.w) A1 (.builtin "list.extend.loop" ⟨[.ref q, .ref z, .none], []⟩) Rs s := by
  intro m
  induction m with
  | zero =>
    intro i ts H s hm I Z fp e low hq hl pr
    have ha := e.sqT ha0
    have hb := e.sqT hb0
    refine codeAny_builtin PySem.F.entry_extend_loop ?_
    rw [Around.under_plainId PySem.F.plain_extend_loop _]
    obtain ⟨its, rv, p, _⟩ := I.tuple ha
    obtain ⟨its2, rv2, p2, _⟩ := I.tuple hb
    have l1 := rv.length
    refine wpAny_bind (m := pyNext (.ref z)) (znext_end hc D Z p p2 (by simp; omega) fun h' k => ?_)
    refine wpAny_pure (hdone ts H _ (I.turnedL (t' := s.toks) (fun c o n q => k c o n q) fp) e hq ?_)
    rwa [List.take_of_length_le (by rw [List.length_zip]; omega)] at pr
  | succ m ih =>
    intro i ts H s hm I Z fp e low hq hl pr
    have ha := e.sqT ha0
    have hb := e.sqT hb0
    refine codeAny_builtin PySem.F.entry_extend_loop ?_
    rw [Around.under_plainId PySem.F.plain_extend_loop _]
    obtain ⟨its, rv, p, _⟩ := I.tuple ha
    obtain ⟨its2, rv2, p2, _⟩ := I.tuple hb
    have hx : xs[i]? = some (xs[i]'(by omega)) := List.getElem?_eq_getElem (by omega)
    have hy : ys[i]? = some (ys[i]'(by omega)) := List.getElem?_eq_getElem (by omega)
    obtain ⟨u, hu, ru⟩ := rv.get hx
    obtain ⟨u2, hu2, ru2⟩ := rv2.get hy
    have hlt : q < s.heap.objs.size := by
      obtain ⟨_, _, _, _, _, e0⟩ := I.lstM hq
      exact Heap.lt_size e0
    refine wpAny_bind (m := pyNext (.ref z)) (znext_item hlt D Z p p2 (by simpa using hu) (by simpa using hu2) fun h' Z' pT k => ?_)
    have fresh : H s.heap.objs.size = none := I.hok.fresh (Nat.le_refl _)
    have new : ObjOk X.prog X.w (upd H s.heap.objs.size (.tup [xs[i]'(by omega), ys[i]'(by omega)])) h' s.heap.objs.size (.tup [xs[i]'(by omega), ys[i]'(by omega)]) :=
      ⟨by show 2 ≤ sizeLine; decide, [u, u2], .cons ru (.cons ru2 .nil), ⟨_, pT, rfl, _, rfl⟩⟩
    have I1 : Inv X pins σ (upd H s.heap.objs.size (.tup [xs[i]'(by omega), ys[i]'(by omega)])) { s with heap := h' } := I.turnedNew (t' := s.toks) (ch := [z, TI, TO, i1, i2]) k fp (Nat.le_refl _) new
    have qn : q ≠ s.heap.objs.size := ne_of_none hq fresh
    have e1 : Ext H (upd H s.heap.objs.size (.tup [xs[i]'(by omega), ys[i]'(by omega)])) := fun b o r => by rw [upd_ne (ne_of_none r fresh)]; exact r
    have hq1 := e1 q _ hq
    obtain ⟨z', its', k', r2, hl2, e2⟩ := I1.lstM hq1
    have ll := r2.length
    rw [List.length_map] at ll
    refine wpAny_bind (m := updateSeq q (·.push (.ref s.heap.objs.size))) (wpAny_updateSeq e2 rfl (wpAny_pure ⟨plainId_quiet PySem.F.plain_extend_loop _, ?_⟩) (by rw [List.size_toArray]; omega) (by show (its'.toArray.push _).size ≤ sizeLine + 1; rw [Array.size_push, List.size_toArray]; omega))
    have I2 := I1.lset (f := (·.push (.ref s.heap.objs.size))) (its' := its' ++ [.ref s.heap.objs.size]) (ys := (ts ++ [s.heap.objs.size]).map V.ref) (t' := s.toks) hq1 e2 (by simp) (by rw [List.map_append]; exact r2.append (.cons rfl .nil)) (by rw [List.length_map, List.length_append, List.length_singleton]; omega)
    refine ih (i + 1) (ts ++ [s.heap.objs.size]) _ _ (by omega) I2 (Z'.keep hqz fun c o n r => ((Heap.SameBut.update ..).2 c n).trans r) (fun c hc => ?_) ?_ (fun c hc => ?_) upd_same (by simp [hl]) ?_
    · have f0 := fp c hc
      have n1 : c ≠ q := fun r => hqz (by rw [← r]; exact hc)
      exact ⟨by rw [upd_ne n1, upd_ne (Nat.ne_of_lt (low c hc))]; exact f0.1, f0.2⟩
    · intro c o r
      rw [upd_ne (ne_of_none r hq0)]
      exact e1 _ _ (e c o r)
    · show c < (h'.update q _).objs.size
      rw [(Heap.SameBut.update ..).1]
      exact Nat.lt_trans (low c hc) (Heap.lt_size pT)
    · have hz : (xs.zip ys)[i]? = some (xs[i]'(by omega), ys[i]'(by omega)) := by rw [List.getElem?_eq_getElem (by rw [List.length_zip]; omega)]; simp
      have old : Paired (fun t (p : V × V) => upd (upd H s.heap.objs.size (.tup [xs[i]'(by omega), ys[i]'(by omega)])) q (.lst ((ts ++ [s.heap.objs.size]).map V.ref)) t = some (.tup [p.1, p.2])) ts ((xs.zip ys).take i) := by
        refine pr.mono fun t p r => ?_
        rw [upd_ne (ne_of r hq fun z => nomatch z)]
        exact e1 _ _ r
      rw [List.take_add_one, hz]
      exact old.snoc (by rw [upd_ne (Ne.symm qn), upd_same])
end
/-- list(zip(a, b)) of two tuples of one length -/
def rZipL (K : PySem.W.Frag) (vs : List V) (H : Hp) (Q : VK) : Prop := ∃ a b xs ys, vs = [.ref a, .ref b] ∧ SqT K H a xs ∧ SqT K H b ys ∧ xs.length = ys.length ∧ xs.length < sizeLine ∧
  ∀ q ts H', H q = none → Ext H H' → H' q = some (.lst (ts.map V.ref)) → Paired (fun t (p : V × V) => H' t = some (.tup [p.1, p.2])) ts (xs.zip ys) → Q (.ref q) H'
def tZipL (K : PySem.W.Frag) (t : TA) : TE := fun σ H Q => t σ H fun vs H1 => rZipL K vs H1 Q
section
variable {X : Cx} {e e2 : Expr} {ta : TA} {p pos p2 pos2 : Pos}
theorem pe_zipL (hc : X.calm = true) (hg : Gl X "list") (hm : X.mg "list" = none) (hg2 : Gl X "zip") (hm2 : X.mg "zip" = none) (ha : PA X [e, e2] ta)
    (hs2 : starEach [e, e2] X.env = (false, eval e X.env) :: starEach [e2] X.env := by rfl) (hpl2 : (backTo pos2 (starEach [e2] X.env)).any (·.1) = false := by rfl)
    (hs : starEach [.Call (.Name "zip" p2) [e, e2] [] pos2] X.env = (false, eval (.Call (.Name "zip" p2) [e, e2] [] pos2) X.env) :: starEach [] X.env := by rfl) :
    PE X (.Call (.Name "list" p) [.Call (.Name "zip" p2) [e, e2] [] pos2] [] pos) (tZipL X.K ta) := by
  refine ⟨fun pins s σ H Q I h => ?_⟩
  refine wpAny_Call_Name_kw (ld_blt I hg hm PyProof.Rows.boot_list ?_)
  refine PyProof.Rows.callWith_type1 ?_ hs rfl
  rw [hs]
  show wpAny _ _ (spliced ((false, eval (.Call (.Name "zip" p2) [e, e2] [] pos2) X.env) :: backTo pos (starEach [] X.env))) _ _ s
  refine Calls.spliced_cons ?_
  refine Call_ (ld_blt I hg2 hm2 PyProof.Rows.boot_zip (PyProof.Rows.callWith_type1 (thn (ha.run pos2 pins s σ H _ I h) fun us s1 ⟨vs, H1, I1, r1, q1⟩ => ?_) hs2 hpl2))
  obtain ⟨a, b, xs, ys, ex, ha1, hb1, hlen, hsz, kk⟩ := q1
  subst ex
  obtain ⟨u, u2, rfl, ru, ru2⟩ := r1.two
  cases ru
  cases ru2
  obtain ⟨its, rv, p1, _⟩ := I1.tuple ha1
  obtain ⟨its2, rv2, p2', _⟩ := I1.tuple hb1
  obtain ⟨o1, ho1, _⟩ := id p1
  obtain ⟨o2, ho2, _⟩ := id p2'
  refine RZ.call_zipT (show s1.heap.IsTuple a its.toArray from p1) (show s1.heap.IsTuple b its2.toArray from p2') fun h' hz hTI hTO h1 h2 hsz' hk => ?_
  refine Calls.spliced_nil ?_
  have D := PySem.W.ktu_apart s1.heap.objs.size a b (Heap.lt_size ho1) (Heap.lt_size ho2)
  have I2 : Inv X pins σ H1 { s1 with heap := h' } := I1.kept (t' := s1.toks) hk
  have in5 : ∀ c, c ∈ [s1.heap.objs.size + 4, s1.heap.objs.size + 2, s1.heap.objs.size + 3, s1.heap.objs.size, s1.heap.objs.size + 1] → s1.heap.objs.size ≤ c ∧ c < s1.heap.objs.size + 5 := fun c hcm => by
    simp only [List.mem_cons, List.mem_nil_iff, or_false] at hcm
    rcases hcm with r | r | r | r | r <;> subst r <;> exact ⟨by first | exact Nat.le_refl _ | exact Nat.le_add_right _ _, by first | exact Nat.lt_add_of_pos_right (by decide) | exact Nat.add_lt_add_left (by decide) _⟩
  have ty : ∀ s' : Shared, IsZip s'.heap (s1.heap.objs.size + 4) (s1.heap.objs.size + 2) (s1.heap.objs.size + 3) .none → s'.TypeIs (.ref (s1.heap.objs.size + 4)) "zip" := fun s' r => ⟨_, r, rfl⟩
  have fr : H1 h'.objs.size = none := I2.hok.fresh (Nat.le_refl _)
  refine callType_codes (Q₁ := fun obj s₁ => obj = .ref h'.objs.size ∧ s₁ = { s1 with heap := h'.push { cls := .type "list", data := .seq #[] } }) PySem.F.called_list (PySem.F.typeCall_list_1 _) PySem.F.entry_list_init (code_list_new _ ⟨rfl, rfl⟩) fun obj s₁ h₁ => ?_
  obtain ⟨rfl, rfl⟩ := h₁
  have hS : (h'.push { cls := .type "list", data := .seq #[] }).get? h'.objs.size = some { cls := .type "list", data := .seq #[] } := Heap.get?_push_size _ rfl
  refine ⟨⟨_, hS, rfl⟩, PySem.F.args_list_init_2 _ _, ?_⟩
  have I3 : Inv X pins σ (upd H1 h'.objs.size (.lst [])) { s1 with heap := h'.push { cls := .type "list", data := .seq #[] } } := I2.lnew (its := []) (t' := s1.toks) .nil (Nat.zero_le _)
  refine wpAny_bind (m := Builtin.List.listItems (.ref h'.objs.size)) ?_
  unfold Builtin.List.listItems
  refine wpAny_bind (wpAny_seqItems hS rfl (wpAny_pure ?_))
  refine wpAny_bind (m := updateSeq h'.objs.size (fun _ => #[])) (wpAny_updateSeq hS rfl ?_)
  have I4 := I3.lset (f := fun _ => #[]) (its := []) (its' := []) (ys := []) (t' := s1.toks) upd_same hS rfl .nil (Nat.zero_le _)
  rw [upd_upd] at I4
  refine wpAny_bind (m := letGo (#[] : Array Value).toList.reverse) (wpAny_letGo ?_)
  have keep : ∀ c o, c ≠ h'.objs.size → h'.get? c = some o → ((h'.push { cls := .type "list", data := .seq #[] }).update h'.objs.size (Obj.mapSeq fun _ => #[])).get? c = some o := fun c o n r => ((Heap.SameBut.update ..).2 c n).trans (Heap.get?_push_of_some _ r)
  have low5 : ∀ c, c ∈ [s1.heap.objs.size + 4, s1.heap.objs.size + 2, s1.heap.objs.size + 3, s1.heap.objs.size, s1.heap.objs.size + 1] → c < h'.objs.size := fun c hcm => by rw [hsz']; exact (in5 c hcm).2
  have ne5 : ∀ c, c ∈ [s1.heap.objs.size + 4, s1.heap.objs.size + 2, s1.heap.objs.size + 3, s1.heap.objs.size, s1.heap.objs.size + 1] → c ≠ h'.objs.size := fun c hcm => Nat.ne_of_lt (low5 c hcm)
  have Z0 : ZAt ((h'.push { cls := .type "list", data := .seq #[] }).update h'.objs.size (Obj.mapSeq fun _ => #[])) h'.objs.size (s1.heap.objs.size + 4) (s1.heap.objs.size + 2) (s1.heap.objs.size + 3) s1.heap.objs.size (s1.heap.objs.size + 1) a b 0 :=
    ⟨.inl ⟨keep _ _ (ne5 _ (by simp)) hz, _, _, keep _ _ (ne5 _ (by simp)) hTO⟩, keep _ _ (ne5 _ (by simp)) hTI, h1.at fun o r => keep _ _ (ne5 _ (by simp)) r, h2.at fun o r => keep _ _ (ne5 _ (by simp)) r⟩
  unfold Builtin.List.listExtendWith
  have zt := ty { s1 with heap := (h'.push { cls := .type "list", data := .seq #[] }).update h'.objs.size (Obj.mapSeq fun _ => #[]) } (keep _ _ (ne5 _ (by simp)) hz)
  refine wpAny_bind (wpAny_typeOf zt ?_)
  have q1 : Builtin.List.listSameRef (.ref h'.objs.size) (.ref (s1.heap.objs.size + 4)) = false := by simp [Builtin.List.listSameRef, Ne.symm (ne5 (s1.heap.objs.size + 4) (by simp))]
  have q2 : (Value.type "zip" == Value.type "list") = false := rfl
  have q3 : (Value.type "zip" == Value.type "tuple") = false := rfl
  simp only [q1, q2, q3, Bool.or_false, Bool.false_eq_true, if_false]
  refine wpAny_bind (wpAny_pyIter_zip (keep _ _ (ne5 _ (by simp)) hz) ?_)
  refine wpAny_bind (wpAny_holding (zip_hint zt ?_))
  rw [Bool.true_or, if_pos rfl]
  obtain ⟨w4, its4, k4, r4, l4, e4⟩ := I4.lstM upd_same
  cases r4
  refine wpAny_bind (wpAny_rule (wpAny_bind ?_))
  refine wpAny_bind (m := updateSeq h'.objs.size (·.push .none)) (wpAny_updateSeq e4 rfl ?_)
  have I5 := I4.lset (f := (·.push Value.none)) (its' := [Value.none]) (ys := [.non]) (t' := s1.toks) upd_same e4 (by simp) (.cons rfl .nil) (by rw [List.length_singleton, sizeLine_eq]; decide)
  obtain ⟨w5, its5, k5, r5, l5, e5⟩ := I5.lstM upd_same
  obtain ⟨u5, rfl, ru5⟩ := r5.one
  refine wpAny_updateSeq e5 rfl (wpAny_pure ⟨plainId_quiet PySem.F.plain_extend_loop _, ?_⟩) (by show 1 ≤ sizeLine; rw [sizeLine_eq]; decide) (Nat.zero_le _)
  have I6 := I5.lset (f := (·.pop)) (its := [u5]) (its' := []) (ys := []) (t' := s1.toks) upd_same e5 (by rfl) .nil (Nat.zero_le _)
  rw [upd_upd, upd_upd] at I6
  have nq : h'.objs.size ∉ [s1.heap.objs.size + 4, s1.heap.objs.size + 2, s1.heap.objs.size + 3, s1.heap.objs.size, s1.heap.objs.size + 1] := fun r => Nat.lt_irrefl _ (low5 _ r)
  refine zip_loop (A1 := X.A.in1) (Rs := wants (fun r s₂ => r = .none ∧ EP X pins σ Q (.ref h'.objs.size) s₂) X.xe) (I2.ok.hd hc) D hlen hsz fr ha1 hb1 nq (fun ts H s' I' e' hq' pr => ⟨rfl, .ref h'.objs.size, H, I', rfl, kk _ ts H fr e' hq' pr⟩) xs.length 0 [] _ _ (Nat.add_zero _) I6 ((Z0.upd nq).upd nq) (fun c hcm => ?_) ?_ (fun c hcm => ?_) upd_same rfl .nil
  · have f0 := I1.fpOk (H' := H1) (in5 c hcm).1 (I1.hok.fresh (in5 c hcm).1)
    exact ⟨by rw [upd_ne (ne5 c hcm)]; exact f0.1, f0.2⟩
  · intro c o r
    rw [upd_ne (ne_of_none r fr)]
    exact r
  · refine Nat.lt_of_lt_of_le (low5 c hcm) ?_
    show _ ≤ (Heap.update _ _ _).objs.size
    rw [(Heap.SameBut.update ..).1, (Heap.SameBut.update ..).1, (Heap.SameBut.update ..).1, Heap.size_push]
    exact Nat.le_succ _
end
section
variable {K : PySem.W.Frag} {σ : L2.St} {H : Hp} {as : TA} {Q : VK} {a b : Addr} {xs ys : List V}
instance i_zipL : St1 (tZipL K as σ H Q) (as σ H fun vs H1 => rZipL K vs H1 Q) := ⟨fun h => h⟩
theorem v_zipL (ha : H a = some (.tup xs)) (hb : H b = some (.tup ys)) (hl : xs.length = ys.length) (hs : xs.length < sizeLine) (k : ∀ q ts H', H q = none → Ext H H' → H' q = some (.lst (ts.map V.ref)) → Paired (fun t (p : V × V) => H' t = some (.tup [p.1, p.2])) ts (xs.zip ys) → Q (.ref q) H') : rZipL K [.ref a, .ref b] H Q :=
  ⟨a, b, xs, ys, rfl, .inl (.inl ha), .inl (.inl hb), hl, hs, k⟩
end
end GG

/-! GI: list(o), o an own instance whose __iter__ gives a tuple's iterator; iter(tuple). -/
namespace GG
open PySem PySem.Spec L2 PyProof.Rows
/-- the tuple at l, walked to place i by the iterator at it -/
def TIt (l it : Addr) (i : Nat) : HO := .ext fun h => h.IsTupleIter it l i
/-- an object of no further use -/
def Junk (it : Addr) : HO := .ext fun h => ∃ o, h.get? it = some o
theorem tit_ok {P : Program} {w : World} {H : Hp} {h : Heap} {l it : Addr} {i : Nat} (e : h.IsTupleIter it l i) : ObjOk P w H h it (TIt l it i) := ⟨e, (let ⟨o, ho, _⟩ := e; ⟨o, ho⟩), fun h1 h2 q k => q.at k⟩
theorem junk_ok {P : Program} {w : World} {H : Hp} {h : Heap} {it : Addr} (e : ∃ o, h.get? it = some o) : ObjOk P w H h it (Junk it) := ⟨e, e, fun h1 h2 q k => let ⟨o, ho⟩ := q; ⟨o, k o ho⟩⟩
section
variable {prog : Program} {w : World} {A : Around} {E : Value → Shared → Prop} {s : Shared} {it l : Addr} {i : Nat} {xs : Array Value}
theorem iter_tup {Q : Value → Shared → Prop} (hl : s.heap.IsTuple l xs) (h : ∀ h', h'.IsTupleIter s.heap.objs.size l 0 → (∀ b o, s.heap.get? b = some o → h'.get? b = some o) → Q (.ref s.heap.objs.size) { s with heap := h' }) : wpAny (model prog w) A (call (.builtin "iter") [.ref l]) Q E s := by
  refine Calls.call_function_entry (by decide +kernel) (by decide +kernel) PySem.W.kdk_entry_iter (PySem.W.kdk_args_iter _) ?_
  unfold Builtin.«iter»
  refine wpAny_bind (m := someArgs "iter" 1 2 _) (wpAny_of_eq (a := [Value.ref l]) (by first | rfl | kernel_rfl!) (wpAny_bind (m := pyIter (.ref l)) (wpAny_pyIter_tuple hl (wpAny_pure ⟨_, rfl, h _ ⟨_, Heap.get?_push_size _ rfl, rfl, rfl⟩ fun b o e => Heap.get?_push_of_some _ e⟩))))
theorem tnext_end {Q : Option Value → Shared → Prop} (hh : A.handled = none) (hit : s.heap.IsTupleIter it l i) (hl : s.heap.IsTuple l xs) (hx : xs[i]? = none)
    (k : ∀ h', Heap.ExtBut it s.heap h' → (∃ o, h'.get? it = some o) → Q none { s with heap := h' }) : wpAny (model prog w) A (pyNext (.ref it)) Q E s := by
  obtain ⟨ob, gb, cb, db⟩ := id hit
  obtain ⟨ot, gt, _, nt, dt⟩ := hl
  unfold pyNext
  refine wpAny_bind (wpAny_attempt (wpAny_callSpecial?_slot (name := Str.ofString "__next__") hit.typeIs F.slot_tuple_iterator_next (wpAny_call_entry F.slot_tuple_iterator_next hit.typeIs F.entry_tuple_iterator_next ?_ (F.args_tuple_iterator_next_1 _))))
  refine wpAny_bind (m := field (.ref it) 0) (wpAny_field gb db (x := .ref l) rfl ?_)
  have nn : ¬ ((Value.ref l == Value.none) = true) := Bool.false_ne_true
  show wpAny _ _ (if (Value.ref l == Value.none) = true then _ else _) _ _ s
  rw [if_neg nn]
  refine wpAny_bind (m := field (.ref it) 1) (wpAny_field gb db (x := .int i 0) rfl (wpAny_bind (m := seqItems? (.ref l)) (wpAny_seqItems gt dt ?_)))
  simp only [Int.toNat_natCast, hx]
  refine wpAny_bind (wpAny_rule (wpAny_bind (wpAny_setField gb db (by simp) (wpAny_bind (m := newExc (.type "StopIteration") []) ?_))))
  simp only [newExc, newTuple]
  refine wpAny_bind (wpAny_newObj_type (wpAny_bind (m := firstArgMember _ _) (wpAny_of_eq (a := Value.none) (by first | rfl | (simp only [firstArgMember]; rfl)) (wpAny_newObj_type ?_ (by size_fits)))) (by size_fits))
  simp only [raiseNew]
  refine wpAny_bind (wpAny_handled ?_)
  first | rw [show A.in1.handled = none from hh] | rw [hh]
  refine wpAny_bind (wpAny_pure (wpAny_throw ?_))
  refine wpAny_bind (wpAny_isInstance (T := "StopIteration") (b := true) ⟨_, Heap.get?_push_size _ rfl, rfl⟩ isSubtype_stop (wpAny_pure (k _ (((Heap.SameBut.update ..).extBut.push _).push _) ?_)))
  exact ⟨_, Heap.get?_push_of_some _ (Heap.get?_push_of_some _ (Heap.get?_update_self _ gb (Obj.isFreed_of_fields (Obj.data_mapFields db _))))⟩
end
/-- iter(t), t a tuple -/
def rIterT (K : PySem.W.Frag) : List V → Hp → VK → Prop := fun xs H Q => ∃ (l : Addr) (zs : List V), xs = [.ref l] ∧ SqT K H l zs ∧ ∀ it, H it = none → Q (.ref it) (upd H it (TIt l it 0))
theorem c_iter {X : Cx} (K : PySem.W.Frag) (hK : X.K = K := by rfl) : CallR X (.builtin "iter") (rIterT K) := by
  subst hK
  intro pins s σ H xs us Q I r h
  obtain ⟨l, zs, rfl, hq, q⟩ := h
  obtain ⟨u, rfl, ru⟩ := vals1 r
  cases ru
  obtain ⟨its, rv, pl, hz⟩ := I.tuple hq
  refine iter_tup pl fun h' e k => ?_
  exact ⟨.ref s.heap.objs.size, _, I.laid (t' := s.toks) k (Nat.le_refl _) (tit_ok e), rfl, q _ (I.hok.fresh (Nat.le_refl _))⟩
section
variable {X : Cx} {pins : List (Addr × Obj)} {σ : L2.St} {A1 : Around} {it u q : Addr} {zs : List V} {Rs : Result → Shared → Prop}
theorem tit_get {H : Hp} {s : Shared} {i : Nat} (I : L2.Inv X pins σ H s) (e : H it = some (TIt u it i)) : s.heap.IsTupleIter it u i := (I.hok it _ e).1
theorem tit_loop (hc : A1.in1.handled = none) (hsz : zs.length < sizeLine) {H0 : Hp}
    (hdone : ∀ H s, L2.Inv X pins σ H s → (∀ b o, b ≠ q → b ≠ it → H0 b = some o → H b = some o) → H q = some (.lst zs) → Rs (.ok (.ret .none)) s) :
    ∀ (m i : Nat) (H : Hp) (s : Shared), m + i = zs.length → L2.Inv X pins σ H s → H it = some (TIt u it i) → SqT X.K H u zs → H q = some (.lst (zs.take i)) → (∀ b o, b ≠ q → b ≠ it → H0 b = some o → H b = some o) →
      codeAny (model X.prog X.w) A1 (.builtin "list.extend.loop" ⟨[.ref q, .ref it, .none], []⟩) Rs s := by
  intro m
  induction m with
  | zero =>
    intro i H s hm I hi hu hq e
    refine codeAny_builtin PySem.F.entry_extend_loop ?_
    rw [Around.under_plainId PySem.F.plain_extend_loop _]
    obtain ⟨its, rv, p, _⟩ := I.tuple hu
    have l1 := rv.length
    refine wpAny_bind (m := pyNext (.ref it)) (tnext_end hc (tit_get I hi) p (by simp; omega) fun h' k ex => ?_)
    have mu : Mut (H it) := by rw [hi]; exact True.intro
    have I2 := I.write (x := it) (e := it) (o := Junk it) (t' := s.toks) mu (.inl rfl) (fun b o nb z => k b o nb z) ex (junk_ok ex)
    have nq : q ≠ it := ne_of hq hi (fun z => nomatch z)
    refine wpAny_pure (hdone _ _ I2 (fun b o n1 n2 z => by rw [upd_ne n2]; exact e b o n1 n2 z) ?_)
    rw [upd_ne nq, hq, List.take_of_length_le (by omega)]
  | succ m ih =>
    intro i H s hm I hi hu hq e
    refine codeAny_builtin PySem.F.entry_extend_loop ?_
    rw [Around.under_plainId PySem.F.plain_extend_loop _]
    obtain ⟨its, rv, p, _⟩ := I.tuple hu
    have hx : zs[i]? = some (zs[i]'(by omega)) := List.getElem?_eq_getElem (by omega)
    obtain ⟨w1, hw, rw1⟩ := rv.get hx
    have mu : Mut (H it) := by rw [hi]; exact True.intro
    have nq : q ≠ it := ne_of hq hi (fun z => nomatch z)
    refine wpAny_bind (m := pyNext (.ref it)) (wpAny_pyNext_tuple_item (tit_get I hi) p (by simpa using hw) fun h' e' sb => ?_)
    have ex : ∃ o, h'.get? it = some o := let ⟨o, ho, _⟩ := e'; ⟨o, ho⟩
    have I1 := I.write (x := it) (e := it) (o := TIt u it (i + 1)) (t' := s.toks) mu (.inl rfl) (fun b o nb z => (sb.2 b nb).trans z) ex (tit_ok e')
    have hq1 : upd H it (TIt u it (i + 1)) q = some (.lst (zs.take i)) := by rw [upd_ne nq]; exact hq
    obtain ⟨z', its', k', r2, hl2, e2⟩ := I1.lstM hq1
    have ll := r2.length
    rw [List.length_take] at ll
    refine wpAny_bind (m := updateSeq q (·.push w1)) (wpAny_updateSeq e2 rfl (wpAny_pure ⟨plainId_quiet PySem.F.plain_extend_loop _, ?_⟩) (by rw [List.size_toArray]; omega) (by show (its'.toArray.push _).size ≤ sizeLine + 1; rw [Array.size_push, List.size_toArray]; omega))
    have I2 := I1.lset (f := (·.push w1)) (its' := its' ++ [w1]) (ys := zs.take (i + 1)) (t' := s.toks) hq1 e2 (by simp) (by rw [List.take_add_one, hx]; exact r2.append (.cons rw1 .nil)) (by rw [List.length_take]; omega)
    refine ih (i + 1) _ _ (by omega) I2 (by rw [upd_ne (Ne.symm nq), upd_same]) ?_ upd_same fun b o n1 n2 z => by rw [upd_ne n1, upd_ne n2]; exact e b o n1 n2 z
    have n1 : ∀ (o : HO) (a : Addr), (∀ ys, o = .tup ys ∨ (∃ v, o = .frz v (.tup ys)) → H a = some o → (upd (upd H it (TIt u it (i + 1))) q (.lst (zs.take (i + 1)))) a = some o) := fun o a ys ho ha => by
      rcases ho with rfl | ⟨v, rfl⟩
      · rw [upd_ne (ne_of ha hq fun z => nomatch z), upd_ne (ne_of ha hi fun z => nomatch z)]; exact ha
      · rw [upd_ne (ne_of ha hq fun z => nomatch z), upd_ne (ne_of ha hi fun z => nomatch z)]; exact ha
    rcases hu with h | h
    · rcases h with h | ⟨o, h⟩
      · exact .inl (.inl (n1 _ _ zs (.inl rfl) h))
      · exact .inl (.inr ⟨o, n1 _ _ zs (.inr ⟨o, rfl⟩) h⟩)
    · exact .inr h
end
/-! ### list(o) -/
section
variable {X : Cx} {k : Nat} {f : Addr} {fd : FuncData} {ps : List Str} {sp : Sp}
/-- a callee that lets nothing out -/
theorem run_quiet {A : Around} {pins : List (Addr × Obj)} {σ : L2.St} {H : Hp} {s : Shared} {Q : VK} {us : List Value} {vs : List V} {xe : Value → Shared → Prop} (F : FnOk X.prog X.w X.K X.mg X.base (L2N.CX X.prog X.w) k f fd ps sp) (hr : Room k A) (fr : A.frames = X.A.frames) (hb : L2.Binds X.K fd ps [])
    (I : L2.Inv X pins σ H s) (r : Vals vs us) (h : sp vs H Q E0) : wpAny (model X.prog X.w) A (call (.ref f) us) (EP X pins σ Q) xe s := by
  have e0 : Env0 X.prog X.w X.K X.mg X.base A X.stack s H := by
    have e := I.env0
    exact ⟨by rw [fr]; exact e.frames, e.mod, e.bs, e.bsz, e.funs, e.frf, e.hok, e.bare⟩
  have hl : (us ++ []).length = ps.length := by rw [List.append_nil, ← r.length]; exact F.len _ _ _ _ h
  refine wpAny_call (codeAny_mono (F.run A X.stack s H ⟨us, []⟩ us vs Q E0 hr e0 (by have z := hb s us I.kIn hl; rw [List.append_nil] at z; exact z) r h) fun r s' hq => ?_)
  cases r with
  | error e =>
    obtain ⟨_, _, _, _, _, _, _, _, _, _, _, _, z⟩ := hq
    exact z.elim
  | ok fl =>
    cases fl with
    | ret u => exact I.after hq
    | next => exact False.elim hq
    | brk => exact False.elim hq
    | cont => exact False.elim hq
end
/-- what is wanted of __len__ -/
def LenP (R : Hp → Prop) : VK := fun v H' => ∃ n : Int, v = .int n ∧ 0 ≤ n ∧ n < 2 ^ 63 ∧ ∃ m : Int, V.int n = .int m ∧ m ≤ 1000 ∧ R H'
def rLsOwn (K : PySem.W.Frag) (C : Addr) (spI spL : Sp) : List V → Hp → VK → Prop := fun xs H Q => ∃ a dx fs, xs = [.ref a] ∧ H a = some (.ins C dx fs) ∧ ∀ q, H q = none → spI [.ref a] (upd H q (.lst [])) (fun v H2 => ∃ it u zs dy gs, v = .ref it ∧ H2 it = some (TIt u it 0) ∧ H2 a = some (.ins C dy gs) ∧
  spL [.ref a] H2 (LenP fun H3 => H3 it = some (TIt u it 0) ∧ SqT K H3 u zs ∧ zs.length ≤ 1000 ∧ H3 q = some (.lst []) ∧ ∀ H4, (∀ b o, b ≠ q → b ≠ it → H3 b = some o → H4 b = some o) → H4 q = some (.lst zs) → Q (.ref q) H4) E0) E0
section
variable {X : Cx} {C : Addr} {k1 k2 : Nat} {ps1 ps2 : List Str} {spI spL : Sp}
theorem own_len_at {A : Around} {pins : List (Addr × Obj)} {σ : L2.St} {H : Hp} {s : Shared} {Q : VK} {a dx : Addr} {fs : List (Str × V)} {xe : Value → Shared → Prop} (S : Sm X.prog X.w X.K X.mg X.base C "__len__" k2 ps2 spL) (hr : Room (k2 + 1) A) (fr : A.frames = X.A.frames) (I : L2.Inv X pins σ H s) (ha : H a = some (.ins C dx fs))
    (q : spL [.ref a] H (fun v H' => ∃ n : Int, v = .int n ∧ 0 ≤ n ∧ n < 2 ^ 63 ∧ Q (.int n) H') E0) : wpAny (model X.prog X.w) A (call (.builtin "len") [.ref a]) (EP X pins σ Q) xe s := by
  obtain ⟨f, fd, F, hs, hf, hb⟩ := S.ex
  obtain ⟨_, _, J⟩ := inst_of I ha
  obtain ⟨m, hF⟩ := I.fr
  refine PySem.W.len_K hF I.ok.mod.kin J hs hf ?_
  refine thn (run_quiet (vs := [.ref a]) F hr.in1 fr hb I (.cons rfl .nil) q) fun r s' z => ?_
  obtain ⟨v, H', I', rv, n, rfl, h0, h1, q'⟩ := z
  obtain ⟨t, rfl⟩ := (show ∃ t, r = Value.int n t from rv)
  exact ⟨⟨h0, h1⟩, .int n, H', I'.tok _, ⟨_, rfl⟩, q'⟩
theorem own_hintL {A : Around} {pins : List (Addr × Obj)} {σ : L2.St} {H : Hp} {s : Shared} {R : Hp → Prop} {a dx : Addr} {fs : List (Str × V)} {QB : Bool → Shared → Prop} {xe : Value → Shared → Prop} (S : Sm X.prog X.w X.K X.mg X.base C "__len__" k2 ps2 spL) (hr : Room (k2 + 1) A) (fr : A.frames = X.A.frames) (I : L2.Inv X pins σ H s) (ha : H a = some (.ins C dx fs))
    (q : spL [.ref a] H (LenP R) E0) (k : ∀ b H' s', L2.Inv X pins σ H' s' → R H' → QB b s') : wpAny (model X.prog X.w) A (Builtin.List.listLengthHint (.ref a)) QB xe s := by
  obtain ⟨f, fd, F, hs, hf, hb⟩ := id S.ex
  obtain ⟨_, _, J⟩ := inst_of I ha
  unfold Builtin.List.listLengthHint
  refine wpAny_bind (wpAny_bind (J.type.here ((PySem.W.looks_findIn I.kIn hs).here ?_)))
  refine PySem.W.KFB.if_not rfl ?_
  show wpAny _ _ (rule "list.length-hint.len" >>= _) _ _ _
  refine wpAny_bind (wpAny_rule ?_)
  refine wpAny_bind (wpAny_attempt (thn (own_len_at (Q := fun v H' => ∃ n : Int, v = .int n ∧ n ≤ 1000 ∧ R H') S hr fr I ha q) fun v s' z => ?_))
  · obtain ⟨x, H', I', rx, n, rfl, hn, hR⟩ := z
    obtain ⟨t, rfl⟩ := (show ∃ t, v = Value.int n t from rx)
    dsimp only
    refine wpAny_bind (m := asInt? (.int n t)) (wpAny_pure ?_)
    dsimp only
    have h0 : Builtin.List.listTooLong n.toNat = false := by
      unfold Builtin.List.listTooLong
      simp only [decide_eq_false_iff_not, sizeLine_eq]
      omega
    rw [if_neg (by rw [h0]; exact Bool.false_ne_true)]
    exact wpAny_pure (k _ H' _ I' hR)
theorem c_lsOwn (K : PySem.W.Frag) (SI : Sm X.prog X.w X.K X.mg X.base C "__iter__" k1 ps1 spI) (SL : Sm X.prog X.w X.K X.mg X.base C "__len__" k2 ps2 spL) (hr1 : Room (k1 + 2) X.A) (hr2 : Room (k2 + 3) X.A) (hc : X.calm = true) (hK : X.K = K := by rfl) : CallR X (.type "list") (rLsOwn K C spI spL) := by
  subst hK
  intro pins s σ H xs us Q I rv h
  obtain ⟨a, dx, fs, rfl, ha, hq⟩ := h
  obtain ⟨u, rfl, ru⟩ := rv.one
  cases ru
  obtain ⟨fi, fdi, FI, hsi, hfi, hbi⟩ := SI.ex
  refine callType_codes (Q₁ := fun obj s₁ => obj = .ref s.heap.objs.size ∧ s₁ = { s with heap := s.heap.push { cls := .type "list", data := .seq #[] } }) PySem.F.called_list (PySem.F.typeCall_list_1 _) PySem.F.entry_list_init (code_list_new _ ⟨rfl, rfl⟩) fun obj s₁ h₁ => ?_
  obtain ⟨rfl, rfl⟩ := h₁
  have hS : (s.heap.push { cls := .type "list", data := .seq #[] }).get? s.heap.objs.size = some { cls := .type "list", data := .seq #[] } := Heap.get?_push_size _ rfl
  refine ⟨⟨_, hS, rfl⟩, PySem.F.args_list_init_2 _ _, ?_⟩
  have fr : H s.heap.objs.size = none := I.hok.fresh (Nat.le_refl _)
  have hI := hq _ fr
  generalize hqq : s.heap.objs.size = q at *
  have I1 : L2.Inv X pins σ (upd H q (.lst [])) { s with heap := s.heap.push { cls := .type "list", data := .seq #[] } } := by
    subst hqq
    exact I.lnew (its := []) (t' := s.toks) .nil (Nat.zero_le _)
  refine wpAny_bind (m := Builtin.List.listItems (.ref q)) ?_
  unfold Builtin.List.listItems
  refine wpAny_bind (wpAny_seqItems hS rfl (wpAny_pure ?_))
  refine wpAny_bind (m := updateSeq q (fun _ => #[])) (wpAny_updateSeq hS rfl ?_)
  have I2 := I1.lset (f := fun _ => #[]) (its := []) (its' := []) (ys := []) (t' := s.toks) upd_same hS rfl .nil (Nat.zero_le _)
  rw [upd_upd] at I2
  refine wpAny_bind (m := letGo (#[] : Array Value).toList.reverse) (wpAny_letGo ?_)
  have ha2 : upd H q (.lst []) a = some (.ins C dx fs) := by rw [upd_ne (ne_of_none ha fr)]; exact ha
  have hne : q ≠ a := Ne.symm (ne_of_none ha fr)
  obtain ⟨_, _, J⟩ := inst_of I2 ha2
  obtain ⟨m0, hF⟩ := I2.fr
  unfold Builtin.List.listExtendWith
  refine wpAny_bind (J.type.here ?_)
  have h1 : Builtin.List.listSameRef (.ref q) (.ref a) = false := by simp [Builtin.List.listSameRef, hne]
  have h2 : (Value.ref C == Value.type "list") = false := rfl
  have h3 : (Value.ref C == Value.type "tuple") = false := rfl
  simp only [h1, h2, h3, Bool.or_false, Bool.false_eq_true, if_false]
  refine wpAny_bind (PySem.W.owit_iter hF I.ok.mod.kin J hsi hfi ?_)
  refine thn (run_quiet (vs := [.ref a]) FI hr1.in1.in1 rfl hbi I2 (.cons rfl .nil) hI) fun v s' z => ?_
  obtain ⟨x, H2, I3, rx, it, u, zs, dy, gs, rfl, hit, ha3, hL⟩ := z
  cases rx
  have hT := (tit_get I3 hit).typeIs
  unfold PySem.W.OwitIt
  refine wpAny_specialOf (name := Str.ofString "__next__") hT F.slot_tuple_iterator_next.lookup ?_
  dsimp only
  refine wpAny_bind (wpAny_holding (own_hintL SL hr2.in1.in1 rfl I3 ha3 hL fun b H3 s3 I4 hR => ?_))
  obtain ⟨hit3, hu3, hz3, hq3, kk⟩ := hR
  have fin : ∀ (s4 : Shared), L2.Inv X pins σ H3 s4 → codeAny (model X.prog X.w) X.A.in1 (.builtin "list.extend.loop" ⟨[.ref q, .ref it, .none], []⟩) (wants (fun r s₂ => r = .none ∧ EP X pins σ Q (.ref q) s₂) X.xe) s4 := fun s4 I5 =>
    tit_loop (A1 := X.A.in1) (Rs := wants (fun r s₂ => r = .none ∧ EP X pins σ Q (.ref q) s₂) X.xe) (I5.ok.hd hc) (by have := sizeLine_eq; omega) (H0 := H3) (fun H4 s5 I6 e6 q6 => ⟨rfl, .ref q, H4, I6, rfl, kk H4 e6 q6⟩) zs.length 0 H3 s4 (Nat.add_zero _) I5 hit3 hu3 hq3 fun b o _ _ z => z
  refine wpAny_ite_split (fun _ => ?_) (fun _ => wpAny_pure ⟨plainId_quiet PySem.F.plain_extend_loop _, fin _ I4⟩)
  obtain ⟨w4, its4, k4, r4, l4, e4⟩ := I4.lstM hq3
  cases r4
  refine wpAny_bind (wpAny_rule (wpAny_bind ?_))
  refine wpAny_bind (m := updateSeq q (·.push .none)) (wpAny_updateSeq e4 rfl ?_)
  have I5 := I4.lset (f := (·.push Value.none)) (its' := [Value.none]) (ys := [.non]) (t' := s3.toks) hq3 e4 (by simp) (.cons rfl .nil) (by rw [List.length_singleton, sizeLine_eq]; decide)
  obtain ⟨w5, its5, k5, r5, l5, e5⟩ := I5.lstM upd_same
  obtain ⟨u5, rfl, ru5⟩ := r5.one
  refine wpAny_updateSeq e5 rfl (wpAny_pure ⟨plainId_quiet PySem.F.plain_extend_loop _, fin _ ?_⟩) (by show 1 ≤ sizeLine; rw [sizeLine_eq]; decide) (Nat.zero_le _)
  have I6 := I5.lset (f := (·.pop)) (its := [u5]) (its' := []) (ys := []) (t' := s3.toks) upd_same e5 (by rfl) .nil (Nat.zero_le _)
  rw [upd_upd] at I6
  have hH : upd H3 q (.lst []) = H3 := by
    funext b
    by_cases hb : b = q
    · rw [hb, upd_same, hq3]
    · rw [upd_ne hb]
  rw [hH] at I6
  exact I6
end
section
variable {K : PySem.W.Frag} {H : Hp} {Q : VK} {C a u dx : Addr} {fs : List (Str × V)} {zs : List V} {spI spL : Sp}
theorem v_lsOwn (ha : H a = some (.ins C dx fs)) (hu : H u = some (.tup zs)) (hz : zs.length ≤ 1000)
    (hI : ∀ H1 Q', Ext H H1 → (∀ it H2, H1 it = none → Ext H1 H2 → H2 it = some (TIt u it 0) → Q' (.ref it) H2) → spI [.ref a] H1 Q' E0)
    (hL : ∀ H1 Q', Ext H H1 → Q' (.int zs.length) H1 → spL [.ref a] H1 Q' E0) (k : ∀ q H', H q = none → Ext H H' → H' q = some (.lst zs) → Q (.ref q) H') : rLsOwn K C spI spL [.ref a] H Q := by
  refine ⟨a, dx, fs, rfl, ha, fun q nq => hI _ _ (Ext.new nq) fun it H2 nit e2 hit => ?_⟩
  have e02 : Ext H H2 := (Ext.new nq).trans e2
  have hq2 := e2.look (upd_same (H := H) (a := q) (o := .lst []))
  have nit0 : H it = none := (Ext.new nq).free nit
  refine ⟨it, u, zs, dx, fs, rfl, hit, e02.look ha, hL H2 _ e02 ⟨zs.length, rfl, by omega, by omega, zs.length, rfl, by omega, hit, .inl (.inl (e02.look hu)), hz, hq2, fun H4 e4 q4 => ?_⟩⟩
  exact k q H4 nq (fun b o z => e4 b o (ne_of_none z nq) (ne_of_none z nit0) (e02 b o z)) q4
theorem v_iterT (hu : H u = some (.tup zs)) (k : ∀ it H', H it = none → Ext H H' → H' it = some (TIt u it 0) → Q (.ref it) H') : rIterT K [.ref u] H Q := ⟨u, zs, rfl, .inl (.inl hu), fun it nit => k it _ nit (Ext.new nit) upd_same⟩
end
end GG

/-! GY: own __getitem__, conversions, slices, == of data, comprehensions by a walk, isinstance with a tuple of classes. -/
namespace GG
open PySem L2 PyProof.Rows
/-! ### x[i] by the text's own __getitem__ -/
def rGet (C : Addr) (sp : Sp) (E : L2.St → XK) : R2S := fun σ x y H Q => ∃ a dx fs, x = .ref a ∧ H a = some (.ins C dx fs) ∧ sp [.ref a, y] H Q (E σ)
def Gets (K : PySem.W.Frag) (C : Addr) : Prop := ∃ f, PySem.W.findIn K (.ref C) "__getitem__" = some (some (.ref f)) ∧ PySem.W.fnIn K f = true
section
variable {X : Cx} {k : Nat} {C : Addr} {ps : List Str} {sp : Sp} {E : L2.St → XK} {a b : Expr} {ta tb : TE} {pos : Pos}
theorem pe_ixOwn (S : Sm X.prog X.w X.K X.mg X.base C "__getitem__" k ps sp) (hg : Gets X.K C) (hr : Room (k + 1) X.A) (hx : Ps X E) (ha : PE X a ta) (hb : PE X b tb)
    (hsl : ∀ x i, subscripted b true (.ref x) i = runValue (.builtin "lifetime.subscript" ⟨[.ref x, i], []⟩) := by intro _ _; with_unfolding_all rfl) : PE X (.Subscript a b pos) (tOpS (rGet C sp E) ta tb) := by
  obtain ⟨f, fd, F, hs, hf, hbd⟩ := S.ex
  obtain ⟨f', hs', hg⟩ := hg
  have ef : f' = f := by
    rw [hs] at hs'
    injection hs' with h
    injection h with h
    injection h with h
    exact h.symm
  subst ef
  refine ⟨fun pins s σ H Q I h => ?_⟩
  refine Subscript_ (binT ha hb I h fun v u s2 x y H2 I2 rx ry q => ?_)
  obtain ⟨o, dx, fs, rfl, ho, q⟩ := q
  cases rx
  obtain ⟨_, _, J⟩ := inst_of I2 ho
  obtain ⟨m, hF⟩ := I2.fr
  exact PySem.W.sub_K hF I2.ok.mod.kin J hs hg hf (run_at0 (vs := [.ref o, y]) F hr.in1 rfl hbd (hx σ) I2 (.cons rfl (.cons ry .nil)) q) (hsl _ _)
end
/-! ### conversions, sums, slices -/
def cList (K : PySem.W.Frag) : List V → Hp → VK → Prop := fun xs H Q => ∃ p ys, xs = [.ref p] ∧ (SqL K H p ys ∨ SqT K H p ys) ∧ ∀ l, H l = none → Q (.ref l) (upd H l (.lst ys))
def cTuple (K : PySem.W.Frag) : List V → Hp → VK → Prop := fun xs H Q => ∃ p ys, xs = [.ref p] ∧ ((SqL K H p ys ∧ ∀ l, H l = none → Q (.ref l) (upd H l (.tup ys))) ∨ (SqT K H p ys ∧ Q (.ref p) H))
def uSl (K : PySem.W.Frag) : V → Option Int → Option Int → Hp → VK → Prop := fun x lo hi H Q => rSlL K x lo hi H Q ∨ (rSlA K x lo hi H Q ∨ rSlS x lo hi H Q)
section
variable {X : Cx} (K : PySem.W.Frag)
theorem c_list (hK : X.K = K := by rfl) : CallR X (.type "list") (cList K) := by subst hK; exact call_list_of
theorem c_tuple (hK : X.K = K := by rfl) : CallR X (.type "tuple") (cTuple K) := by subst hK; exact call_tuple_of
theorem c_sum (hc : X.calm = true) (hK : X.K = K := by rfl) : CallR X (.builtin "sum") (rSum K) := by subst hK; exact cr_sum hc
theorem c_any (hc : X.calm = true) (hK : X.K = K := by rfl) : CallR X (.builtin "any") (rAny K) := by subst hK; exact cr_any hc
theorem c_all (hc : X.calm = true) (hK : X.K = K := by rfl) : CallR X (.builtin "all") (rAll K) := by subst hK; exact cr_all hc
theorem u_sl (hK : X.K = K := by rfl) : SlR X (uSl K) := by subst hK; exact sl_list.or (sl_tupA.or sl_str)
theorem c_isiT (hK : X.K = K := by rfl) : CallR X (.builtin "isinstance") (rIsiT K) := by subst hK; exact call_isiT
end
/-- isinstance(e, (c1, ..)), e the exception that the suite holds -/
def rIsXT (K : PySem.W.Frag) (mg : Str → Option Value) (a : Addr) (cls : Value) (d : Option Addr) : List V → Hp → VK → Prop := fun xs H Q =>
  ∃ (n : Str) (C fI dd : Addr) (v : V) (tp : Addr) (cs : List V) (us : List Value) (b : Bool), xs = [.ref a, .ref tp] ∧ cls = .ref C ∧ PySem.GErr.ErrTxt K mg n C fI ∧ d = some dd ∧ H dd = some (.xd (subj v)) ∧ H tp = some (.tup cs) ∧ Paired ClsV cs us ∧ PySem.W.kitAny K (.ref C) us = some b ∧ Q (.bl b) H
theorem call_isXT {X : Cx} (K : PySem.W.Frag) (mg : Str → Option Value) {a : Addr} {oe : Obj} {cls : Value} {d : Option Addr} (hz : Zc cls d oe) (hf : ∃ vs, oe.data = .fields vs) (hp : (a, oe) ∈ X.pn := by exact List.Mem.head _) (hK : X.K = K := by rfl) (hM : X.mg = mg := by rfl) : CallR X (.builtin "isinstance") (rIsXT K mg a cls d) := by
  subst hK
  subst hM
  intro pins s σ H xs us Q I r h
  obtain ⟨n, C, fI, dd, v, tp, cs, ws, b, rfl, ec, T, ed, ea, hT, k, hk, q⟩ := h
  subst ec
  subst ed
  obtain ⟨u1, u2, rfl, r1, r2⟩ := vals2 r
  cases r1
  cases (show u2 = Value.ref tp from r2)
  obtain ⟨hget, _⟩ := I.pin (a, oe) (List.mem_append_left _ hp)
  obtain ⟨vs, hd⟩ := hf
  obtain ⟨mA, hns, hr⟩ := (show ObjOk X.prog X.w H s.heap dd (.xd (subj v)) from I.hok dd _ ea)
  obtain ⟨od, ho, hl⟩ := lookIn_ns hns
  have J : PySem.W.InstAt s.heap a oe C (some od) := ⟨hget, hz.1, by unfold PySem.W.notCls; rw [hd] <;> rfl, by rw [hz.2]; exact ho⟩
  have hcl : (PySem.W.clsIn X.K C).isSome = true := by
    obtain ⟨cd, hc, _⟩ := PySem.W.any_some T.hdC
    rw [hc]
    rfl
  obtain ⟨_, its, rv, o, h1, h2, m, h3⟩ := (show ObjOk X.prog X.w H s.heap tp (.tup cs) from I.hok tp _ hT)
  have e3 := ClsV.all k rv
  subst e3
  obtain ⟨oc, od', dt, sl⟩ := o
  simp only at h2 h3
  subst h2 h3
  exact PySem.W.kia_tup (PySem.W.kitx_exc (x := a) (ox := oe) (od := some od) hcl T.ga T.gg T.exC T.haC T.hnC T.htC T.hmC) I.kIn J h1 hk (fun z => nomatch z) fun tk => ⟨.bl b, H, I.tok tk, rfl, q⟩
/-! ### == of data -/
theorem eqv_ints : ∀ {ms ns : List Int}, PyData.eqvAll (ms.map PyData.int) (ns.map PyData.int) = decide (ms = ns)
  | [], [] => by simp [PyData.eqvAll]
  | [], n :: ns => by simp [PyData.eqvAll]
  | m :: ms, [] => by simp [PyData.eqvAll]
  | m :: ms, n :: ns => by
    rw [List.map_cons, List.map_cons]
    unfold PyData.eqvAll
    rw [eqv_ints]
    unfold PyData.eqv
    rw [Bool.eq_iff_iff]
    simp
theorem lay_ints : ∀ {ms : List Int}, PyData.canLayAll0 (ms.map PyData.int) = true ∧ PyData.depthAll (ms.map PyData.int) = 0
  | [] => ⟨rfl, rfl⟩
  | m :: ms => by
    obtain ⟨h1, h2⟩ := lay_ints (ms := ms)
    rw [List.map_cons]
    unfold PyData.canLayAll0 PyData.depthAll
    rw [h1, h2]
    exact ⟨rfl, rfl⟩
section
variable {K : PySem.W.Frag} {H : Hp} {Q : VK} {a b c d l p : Addr} {ms ns : List Int} {xs ys : List V} {n : Nat} {i : Int}
theorem dp_ints : ∀ {ms : List Int}, DpAll K H (ms.map V.int) (ms.map PyData.int)
  | [] => .nil
  | m :: ms => .cons (.int m) dp_ints
theorem shaped_ints : SeqAt.shaped (.list (ms.map PyData.int)) = true := by
  unfold SeqAt.shaped PyData.canLay0 PyData.depth
  rw [lay_ints.1, lay_ints.2]
  rfl
theorem shaped_intsT : SeqAt.shaped (.tuple (ms.map PyData.int)) = true := by
  unfold SeqAt.shaped PyData.canLay0 PyData.depth
  rw [lay_ints.1, lay_ints.2]
  rfl
theorem shaped_1T : SeqAt.shaped (.list [.tuple (ms.map PyData.int)]) = true := by
  unfold SeqAt.shaped PyData.canLay0 PyData.depth PyData.canLayAll0 PyData.depthAll PyData.canLayAll0 PyData.depthAll PyData.canLay0 PyData.depth
  rw [lay_ints.1, lay_ints.2]
  rfl
theorem v_eqLI (ha : H a = some (.lst (ms.map V.int))) (hb : H b = some (.lst (ns.map V.int))) (q : Q (.bl (decide (ms = ns))) H) : uEq K (.ref a) (.ref b) H Q :=
  .inr ⟨_, _, .lst (SqL.of ha) dp_ints, .lst (SqL.of hb) dp_ints, shaped_ints, shaped_ints, by unfold PyData.eqv; rw [eqv_ints]; exact q⟩
theorem v_neLI (ha : H a = some (.lst (ms.map V.int))) (hb : H b = some (.lst (ns.map V.int))) (q : Q (.bl (!decide (ms = ns))) H) : uNe K (.ref a) (.ref b) H Q :=
  .inr ⟨_, _, .lst (SqL.of ha) dp_ints, .lst (SqL.of hb) dp_ints, shaped_ints, shaped_ints, by unfold PyData.eqv; rw [eqv_ints]; exact q⟩
theorem v_eqTI (ha : H a = some (.tup (ms.map V.int))) (hb : H b = some (.tup (ns.map V.int))) (q : Q (.bl (decide (ms = ns))) H) : uEq K (.ref a) (.ref b) H Q :=
  .inr ⟨_, _, .tup (SqT.of ha) dp_ints, .tup (SqT.of hb) dp_ints, shaped_intsT, shaped_intsT, by unfold PyData.eqv; rw [eqv_ints]; exact q⟩
theorem v_neTI (ha : H a = some (.tup (ms.map V.int))) (hb : H b = some (.tup (ns.map V.int))) (q : Q (.bl (!decide (ms = ns))) H) : uNe K (.ref a) (.ref b) H Q :=
  .inr ⟨_, _, .tup (SqT.of ha) dp_ints, .tup (SqT.of hb) dp_ints, shaped_intsT, shaped_intsT, by unfold PyData.eqv; rw [eqv_ints]; exact q⟩
theorem v_neL1T (ha : H a = some (.lst [.ref c])) (hc : H c = some (.tup (ms.map V.int))) (hb : H b = some (.lst [.ref d])) (hd : H d = some (.tup (ns.map V.int))) (q : Q (.bl (!decide (ms = ns))) H) : uNe K (.ref a) (.ref b) H Q :=
  .inr ⟨_, _, .lst (SqL.of ha) (.cons (.tup (SqT.of hc) dp_ints) .nil), .lst (SqL.of hb) (.cons (.tup (SqT.of hd) dp_ints) .nil), shaped_1T, shaped_1T, by
    have e : PyData.eqv (.list [.tuple (ms.map PyData.int)]) (.list [.tuple (ns.map PyData.int)]) = decide (ms = ns) := by
      have e0 : PyData.eqv (.list [.tuple (ms.map PyData.int)]) (.list [.tuple (ns.map PyData.int)]) = (PyData.eqvAll (ms.map PyData.int) (ns.map PyData.int) && true) := by simp only [PyData.eqv, PyData.eqvAll]
      rw [e0, eqv_ints, Bool.and_true]
    rw [e]
    exact q⟩
/-! ### conversions by values -/
theorem v_listL (ha : H a = some (.lst xs)) (k : ∀ p H2, H p = none → Ext H H2 → H2 p = some (.lst xs) → Q (.ref p) H2) : cList K [.ref a] H Q := ⟨a, xs, rfl, .inl (SqL.of ha), fun p hp => k p _ hp (Ext.new hp) upd_same⟩
theorem v_listT (ha : H a = some (.tup xs)) (k : ∀ p H2, H p = none → Ext H H2 → H2 p = some (.lst xs) → Q (.ref p) H2) : cList K [.ref a] H Q := ⟨a, xs, rfl, .inr (SqT.of ha), fun p hp => k p _ hp (Ext.new hp) upd_same⟩
theorem v_tupL (ha : H a = some (.lst xs)) (k : ∀ p H2, H p = none → Ext H H2 → H2 p = some (.tup xs) → Q (.ref p) H2) : cTuple K [.ref a] H Q := ⟨a, xs, rfl, .inl ⟨SqL.of ha, fun p hp => k p _ hp (Ext.new hp) upd_same⟩⟩
theorem v_tupT (ha : H a = some (.tup xs)) (k : Q (.ref a) H) : cTuple K [.ref a] H Q := ⟨a, xs, rfl, .inr ⟨SqT.of ha, k⟩⟩
theorem v_sum (ha : H a = some (.lst (ms.map V.int))) (k : Q (.int ms.sum) H) : rSum K [.ref a] H Q := ⟨a, ms, rfl, SqL.of ha, k⟩
theorem v_any {bs : List Bool} (ha : H a = some (.lst (bs.map V.bl))) (k : Q (.bl (bs.any id)) H) : rAny K [.ref a] H Q := ⟨a, bs, rfl, SqL.of ha, k⟩
theorem v_all {bs : List Bool} (ha : H a = some (.lst (bs.map V.bl))) (k : Q (.bl (bs.all id)) H) : rAll K [.ref a] H Q := ⟨a, bs, rfl, SqL.of ha, k⟩
/-- xs[:n], a list -/
theorem v_slLn (ha : H a = some (.lst xs)) (k : ∀ p H2, H p = none → Ext H H2 → H2 p = some (.lst (xs.take n)) → Q (.ref p) H2) : uSl K (.ref a) none (some (n : Int)) H Q := by
  refine .inl ⟨a, xs, rfl, SqL.of ha, fun p hp => k p _ hp (Ext.new hp) ?_⟩
  rw [upd_same]
  have e : cutV xs none (some (n : Int)) = xs.take n := by
    unfold cutV
    have e1 : HT.sIx xs.length 0 none = 0 := rfl
    rw [e1, HT.sIx_nat, Nat.sub_zero, List.drop_zero]
    rcases Nat.le_total n xs.length with h | h
    · rw [Nat.min_eq_left h]
    · rw [Nat.min_eq_right h, List.take_length, List.take_of_length_le h]
  rw [e]
theorem rep_flat {v : V} : ∀ n : Nat, (List.replicate n [v]).flatten = List.replicate n v
  | 0 => rfl
  | n + 1 => by rw [List.replicate_succ, List.replicate_succ, List.flatten_cons, rep_flat n]; rfl
theorem v_rep1 {v : V} (ha : H a = some (.lst [v])) (hn : n ≤ 1000000) (k : ∀ p H2, H p = none → Ext H H2 → H2 p = some (.lst (List.replicate n v)) → Q (.ref p) H2) : uMul (.ref a) (.int (n : Int)) H Q := by
  refine .inr ⟨a, n, [v], rfl, rfl, ha, by omega, by omega, ?_, fun p hp => k p _ hp (Ext.new hp) ?_⟩
  · have := sizeLine_eq
    simp
    omega
  · rw [upd_same]
    rw [Int.toNat_natCast, rep_flat]
theorem v_isTT (ha : H a = some (.tup xs)) (q : Q (.bl true) H) : rIsi K [.ref a, .ty "tuple"] H Q := ⟨.ref a, .ty "tuple", .type "tuple", .type "tuple", true, rfl, .ty _, .base (.tup ha), kit_ty (by decide +kernel), q⟩
end
theorem pe_mkRSK {X : Cx} {C : Addr} {sp : Sp} {E : L2.St → XK} {te : TE} {e : Expr} (K : PySem.W.Frag) (h : PE X e (tMkRS X.K C sp E te)) (hK : X.K = K := by rfl) : PE X e (tMkRS K C sp E te) := by subst hK; exact h
theorem pe_zipLK {X : Cx} {t : TA} {e : Expr} (K : PySem.W.Frag) (h : PE X e (tZipL X.K t)) (hK : X.K = K := by rfl) : PE X e (tZipL K t) := by subst hK; exact h
theorem br_yes {p A B : Prop} [Decidable p] (h : p) (k : A) : Br (decide p) A B := by rw [decide_eq_true h]; exact br_t k
theorem br_no {p A B : Prop} [Decidable p] (h : ¬ p) (k : B) : Br (decide p) A B := by rw [decide_eq_false h]; exact br_f k
/-! ### slices, step by step -/
def rPart (x : V) (H : Hp) (Q : Option Int → Hp → Prop) : Prop := ∃ i, x = .int i ∧ Q (some i) H
section
variable {K : PySem.W.Frag} {σ : L2.St} {H : Hp} {Q : VK} {QO : Option Int → Hp → Prop} {te ta tb : TE} {tl th : TO} {i : Int} {sp : Sp} {E : L2.St → XK} {C a dx : Addr} {fs : List (Str × V)} {y : V}
instance i_sl {r : V → Option Int → Option Int → Hp → VK → Prop} : St1 (tSl r te tl th σ H Q) (te σ H fun x H1 => tl σ H1 fun l H2 => th σ H2 fun u H3 => r x l u H3 Q) := ⟨fun h => h⟩
instance i_nopart : St1 (tNoPart σ H QO) (QO none H) := ⟨fun h => h⟩
instance i_part : St1 (tPart te σ H QO) (te σ H fun x H1 => rPart x H1 QO) := ⟨fun h => h⟩
instance i_partI : St1 (rPart (.int i) H QO) (QO (some i) H) := ⟨fun h => ⟨i, rfl, h⟩⟩
theorem v_get (ha : H a = some (.ins C dx fs)) (q : sp [.ref a, y] H Q (E σ)) : rGet C sp E σ (.ref a) y H Q := ⟨a, dx, fs, rfl, ha, q⟩
theorem v_isXT {mg : Str → Option Value} {n : Str} {fI dd tp : Addr} {v : V} {cs : List V} {us : List Value} {b : Bool} (T : PySem.GErr.ErrTxt K mg n C fI) (hd : H dd = some (.xd (subj v))) (hT : H tp = some (.tup cs)) (hp : Paired ClsV cs us) (k : PySem.W.kitAny K (.ref C) us = some b) (q : Q (.bl b) H) : rIsXT K mg a (.ref C) (some dd) [.ref a, .ref tp] H Q :=
  ⟨n, C, fI, dd, v, tp, cs, us, b, rfl, rfl, T, rfl, hd, hT, hp, k, q⟩
end
/-! ### comprehensions by a walk -/
/-- the test and the element of a comprehension, its names set -/
def LcT (vs : List Nat) (σw : L2.St) (tt : TT) (te : TE) (kY : VK) (kN : Hp → Prop) (σ2 : L2.St) (H2 : Hp) : Prop := wipe σ2 vs = σw ∧ tt σ2 H2 fun b H3 => Br b (te σ2 H3 kY) (kN H3)
section
variable {K : PySem.W.Frag} {J : It} {n : Nat} {G : Hp → Prop} {Y : Nat → Hp → V → Hp → Prop} {σ σw : L2.St} {H : Hp} {g : TG} {tt : TT} {te : TE} {vs : List Nat} {Q : VK} {kY : VK} {kN : Hp → Prop}
instance i_lct [a : WipeS σ vs σw] : St1 (LcT vs σw tt te kY kN σ H) (tt σ H fun b H3 => Br b (te σ H3 kY) (kN H3)) := ⟨fun h => ⟨a.h, h⟩⟩
/-- the new list at D has its items so far, of which R -/
def LcAtW (D : Addr) (j : Nat) (R : Nat → List V → Hp → Prop) (H : Hp) : Prop := ∃ acc, H D = some (.lst acc) ∧ acc.length ≤ j ∧ R j acc H
def AccK (D : Addr) (j : Nat) (R : Nat → List V → Hp → Prop) (y : V) (H : Hp) : Prop := rAcc D (LcAtW D j R) y H
theorem v_accK {D : Addr} {j : Nat} {R : Nat → List V → Hp → Prop} {acc : List V} {y : V} (hD : H D = some (.lst acc)) (hl : acc.length < j) (hj : j ≤ 1000000) (k : ∀ H2, But D H H2 → R j (acc ++ [y]) H2) : AccK D j R y H :=
  ⟨acc, hD, by have := sizeLine_eq; omega, acc ++ [y], upd_same, by simp; omega, k _ But.upd⟩
theorem lcW (w : Walk J n G Y) [a : WipeS σ vs σw] (R : Nat → List V → Hp → Prop) (h0 : ∀ H1, Ext H H1 → R 0 [] H1) (hG : ∀ i acc H1, i ≤ n → R i acc H1 → G H1)
    (hs : ∀ i x D acc H1 H1', H D = none → i < n → R i acc H1 → Y i H1 x H1' → H1 D = some (.lst acc) → acc.length ≤ i → g x σw H1' fun σ2 H2 => LcT vs σw tt te (AccK D (i + 1) R) (LcAtW D (i + 1) R) σ2 H2)
    (hd : ∀ D acc H1, H D = none → H1 D = some (.lst acc) → acc.length ≤ n → R n acc H1 → Q (.ref D) H1) : rLc J g tt te vs σ H Q := by
  intro D hD
  refine lc_it w (Pv := fun i H1 => LcAtW D i R H1) ⟨[], upd_same, Nat.le_refl _, h0 _ (Ext.new hD)⟩ ?_ ?_ ?_
  · rintro i H1 hi ⟨acc, ha, hl, hr⟩
    exact hG i acc H1 hi hr
  · rintro i x H1 H1' hi ⟨acc, ha, hl, hr⟩ hy
    rw [a.h]
    exact hs i x D acc H1 H1' hD hi hr hy ha hl
  · rintro H1 ⟨acc, ha, hl, hr⟩
    exact hd D acc H1 hD ha hl hr
/-- [e for x in ..], e's value told, what was stays -/
theorem lcP (w : Walk J n G Y) [a : WipeS σ vs σw] (hn : n ≤ 1000000) (f : Nat → V) (hG : ∀ H1, Ext H H1 → G H1) (hY : ∀ i H1 x H1', Y i H1 x H1' → Ext H1 H1')
    (hs : ∀ i x H1 H1' (k : VK), i < n → Ext H H1 → Y i H1 x H1' → (∀ H2, Ext H1' H2 → k (f i) H2) → g x σw H1' fun σ2 H2 => LcK vs σw te k σ2 H2)
    (hd : ∀ D H1, H D = none → Ext H H1 → H1 D = some (.lst ((List.range n).map f)) → Q (.ref D) H1) : rLc J g tYes te vs σ H Q := by
  refine lcW w (fun i acc H1 => Ext H H1 ∧ acc = (List.range i).map f) (fun H1 e => ⟨e, rfl⟩) (fun i acc H1 _ h => hG H1 h.1) ?_ ?_
  · rintro i x D acc H1 H1' hD hi ⟨e, rfl⟩ hy h1 hl
    refine hs i x H1 H1' _ hi e hy fun H2 e2 => ?_
    have e1 := hY i H1 x H1' hy
    refine v_accK ((e1.trans e2).look h1) (by simp) (by omega) fun H3 b3 => ⟨b3.ext ((e.trans e1).trans e2) hD, ?_⟩
    rw [List.range_succ, List.map_append, List.map_singleton]
  · rintro D acc H1 hD h1 hl ⟨e, rfl⟩
    exact hd D H1 hD e h1
theorem yat_ext {xs : List V} {i : Nat} {H1 H1' : Hp} {x : V} (h : YAt xs i H1 x H1') : Ext H1 H1' := by rw [h.1]; exact Ext.rfl
theorem yfn_ext {f : Nat → V} {i : Nat} {H1 H1' : Hp} {x : V} (h : YFn f i H1 x H1') : Ext H1 H1' := by rw [h.1]; exact Ext.rfl
/-- .. over a list -/
theorem lcPL {ad : Addr} {xs : List V} [a : WipeS σ vs σw] (ha : H ad = some (.lst xs)) (hn : xs.length ≤ 1000000) (f : Nat → V)
    (hs : ∀ i x H1 (k : VK), xs[i]? = some x → Ext H H1 → (∀ H2, Ext H1 H2 → k (f i) H2) → g x σw H1 fun σ2 H2 => LcK vs σw te k σ2 H2)
    (hd : ∀ D H1, H D = none → Ext H H1 → H1 D = some (.lst ((List.range xs.length).map f)) → Q (.ref D) H1) : rLc (Itl K ad) g tYes te vs σ H Q :=
  lcP (walk_list (xs := xs)) hn f (fun H1 e => SqL.of (e.look ha)) (fun _ _ _ _ h => yat_ext h) (fun i x H1 H1' k _ e hy hk => by obtain ⟨rfl, hx⟩ := hy; exact hs i x H1' k hx e hk) hd
theorem lcPT {ad : Addr} {xs : List V} [a : WipeS σ vs σw] (ha : H ad = some (.tup xs)) (hn : xs.length ≤ 1000000) (f : Nat → V)
    (hs : ∀ i x H1 (k : VK), xs[i]? = some x → Ext H H1 → (∀ H2, Ext H1 H2 → k (f i) H2) → g x σw H1 fun σ2 H2 => LcK vs σw te k σ2 H2)
    (hd : ∀ D H1, H D = none → Ext H H1 → H1 D = some (.lst ((List.range xs.length).map f)) → Q (.ref D) H1) : rLc (Itt K ad) g tYes te vs σ H Q :=
  lcP (walk_tup (xs := xs)) hn f (fun H1 e => SqT.of (e.look ha)) (fun _ _ _ _ h => yat_ext h) (fun i x H1 H1' k _ e hy hk => by obtain ⟨rfl, hx⟩ := hy; exact hs i x H1' k hx e hk) hd
theorem lcPR {lo : Int} [a : WipeS σ vs σw] (hn : n ≤ 1000000) (f : Nat → V)
    (hs : ∀ (i : Nat) H1 (k : VK), i < n → Ext H H1 → (∀ H2, Ext H1 H2 → k (f i) H2) → g (.int (lo + i)) σw H1 fun σ2 H2 => LcK vs σw te k σ2 H2)
    (hd : ∀ D H1, H D = none → Ext H H1 → H1 D = some (.lst ((List.range n).map f)) → Q (.ref D) H1) : rLc (Itr lo n) g tYes te vs σ H Q :=
  lcP walk_range hn f (fun H1 e => trivial) (fun _ _ _ _ h => yfn_ext h) (fun i x H1 H1' k hi e hy hk => by obtain ⟨rfl, rfl⟩ := hy; exact hs i H1' k hi e hk) hd
theorem lcPR0 [a : WipeS σ vs σw] (hn : n ≤ 1000000) (f : Nat → V)
    (hs : ∀ (i : Nat) H1 (k : VK), i < n → Ext H H1 → (∀ H2, Ext H1 H2 → k (f i) H2) → g (.int (i : Int)) σw H1 fun σ2 H2 => LcK vs σw te k σ2 H2)
    (hd : ∀ D H1, H D = none → Ext H H1 → H1 D = some (.lst ((List.range n).map f)) → Q (.ref D) H1) : rLc (Itr 0 n) g tYes te vs σ H Q :=
  lcPR hn f (fun i H1 k hi e hk => by rw [Int.zero_add]; exact hs i H1 k hi e hk) hd
/-- [e for x in ..], the heap changing at p alone, of which S holds; R of each item -/
theorem lcB (w : Walk J n G Y) [a : WipeS σ vs σw] (hn : n ≤ 1000000) {p : Addr} {ps : List V} (hp : H p = some (.lst ps)) (S : Hp → Prop) (R : Nat → V → Prop) (h0 : S H) (hSm : ∀ H1 H2 D, But p H H1 → S H1 → H D = none → D ≠ p → But D H1 H2 → S H2) (hG : ∀ H1, But p H H1 → S H1 → G H1) (hY : ∀ i H1 x H1', Y i H1 x H1' → Ext H1 H1')
    (hs : ∀ i x H1 H1' (k : VK), i < n → But p H H1 → S H1 → Y i H1 x H1' → (∀ y H2, But p H1' H2 → S H2 → R i y → k y H2) → g x σw H1' fun σ2 H2 => LcK vs σw te k σ2 H2)
    (hd : ∀ D ys H1, H D = none → But p H H1 → S H1 → H1 D = some (.lst ys) → ys.length = n → (∀ i y, ys[i]? = some y → R i y) → Q (.ref D) H1) : rLc J g tYes te vs σ H Q := by
  have nD : ∀ D, H D = none → D ≠ p := fun D hD => Ne.symm (ne_of_none hp hD)
  intro D hD
  refine lc_it w (Pv := fun i H1 => LcAtW D i (fun i acc H1 => But p H H1 ∧ S H1 ∧ acc.length = i ∧ ∀ j y, acc[j]? = some y → R j y) H1) ⟨[], upd_same, Nat.le_refl _, (Ext.new hD).but, hSm H _ D But.rfl h0 hD (nD D hD) But.upd, rfl, fun j y h => by simp at h⟩ ?_ ?_ ?_
  · rintro i H1 hi ⟨acc, ha, hl, hb, hS, _⟩
    exact hG H1 hb hS
  · rintro i x H1 H1' hi ⟨acc, ha, hl, hb, hS, he, hr⟩ hy
    rw [a.h]
    refine hs i x H1 H1' _ hi hb hS hy fun y H2 b2 s2 r2 => ?_
    have e1 := hY i H1 x H1' hy
    refine v_accK (D := D) (j := i + 1) (b2.look (nD D hD) (e1.look ha)) (by omega) (by omega) fun H3 b3 => ?_
    have bb : But p H H2 := (hb.exts e1).trans b2
    refine ⟨fun q o nq z => b3 q o (ne_of_none z hD) (bb q o nq z), hSm H2 H3 D bb s2 hD (nD D hD) b3, by simp; omega, fun j z hz => ?_⟩
    by_cases hj : j < acc.length
    · rw [List.getElem?_append_left hj] at hz
      exact hr j z hz
    · rw [List.getElem?_append_right (by omega)] at hz
      have : j - acc.length = 0 := by
        cases hjj : j - acc.length with
        | zero => rfl
        | succ m => rw [hjj] at hz; simp at hz
      rw [this] at hz
      obtain rfl : y = z := by simpa using hz
      rw [show j = i by omega]
      exact r2
  · rintro H1 ⟨acc, ha, hl, hb, hS, he, hr⟩
    exact hd D acc H1 hD hb hS ha he hr
end
end GG

namespace K04
open PySem L2 GG PyProof.Rows
def top (i : Nat) : Stmt := PySem.Challenge.pw_gangbooks_k04_amounts_within.main.body.getD i (.Pass ⟨0, 0, 0, 0⟩)
abbrev s__law_draw : Stmt := (top 11)
abbrev s__law_pool : Stmt := (top 10)
abbrev s_Amounts___init__ : Stmt := (inClass (top 7) 0)
abbrev s_paired : Stmt := (top 8)
abbrev s_Amounts___sub__ : Stmt := (inClass (top 7) 3)
abbrev s_Amounts___add__ : Stmt := (inClass (top 7) 2)
abbrev s_Amounts___and__ : Stmt := (inClass (top 7) 4)
abbrev s_Amounts___or__ : Stmt := (inClass (top 7) 5)
abbrev s_Amounts___contains__ : Stmt := (inClass (top 7) 6)
abbrev s_Amounts___mul__ : Stmt := (inClass (top 7) 9)
abbrev s_Amounts___floordiv__ : Stmt := (inClass (top 7) 7)
abbrev s_Amounts___mod__ : Stmt := (inClass (top 7) 8)
abbrev s_Amounts___bool__ : Stmt := (inClass (top 7) 13)
abbrev s_Amounts___eq__ : Stmt := (inClass (top 7) 14)
abbrev s_Amounts___getitem__ : Stmt := (inClass (top 7) 15)
abbrev s_Amounts___len__ : Stmt := (inClass (top 7) 16)
abbrev s_Amounts___iter__ : Stmt := (inClass (top 7) 17)
abbrev s__law_number : Stmt := (top 12)
abbrev s__law_signed : Stmt := (top 13)
abbrev s__law_whole : Stmt := (top 16)
abbrev s__law_near : Stmt := (top 14)
abbrev s__law_row : Stmt := (top 15)
abbrev s__law_within : Stmt := (top 18)
abbrev s__law_is : Stmt := (top 17)
abbrev s__law_subject : Stmt := (top 19)
abbrev s__law_counted : Stmt := (top 20)
abbrev s__law_pair : Stmt := (top 21)
abbrev s_law : Stmt := (top 22)
theorem sc__law_draw : FnScope ["_law_pool_here", "_law_many", "_law_first", "_law_second", "_law_found"] ["_law_pool_here", "_law_many"] (defScope s__law_draw) := ⟨rfl, rfl, rfl, by decide +kernel, rfl, by decide +kernel, by decide +kernel⟩
theorem sc__law_pool : FnScope ["_law_script", "_law_pool_here", "_law_cell"] ["_law_script"] (defScope s__law_pool) := ⟨rfl, rfl, rfl, by decide +kernel, rfl, by decide +kernel, by decide +kernel⟩
theorem sc_Amounts___init__ : FnScope ["self", "numbers"] ["self", "numbers"] (defScope s_Amounts___init__) := ⟨rfl, rfl, rfl, by decide +kernel, rfl, by decide +kernel, by decide +kernel⟩
theorem sc_paired : FnScope ["left", "right"] ["left", "right"] (defScope s_paired) := ⟨rfl, rfl, rfl, by decide +kernel, rfl, by decide +kernel, by decide +kernel⟩
theorem sc_Amounts___sub__ : FnScope ["self", "other", "numbers", "one", "two"] ["self", "other"] (defScope s_Amounts___sub__) := ⟨rfl, rfl, rfl, by decide +kernel, rfl, by decide +kernel, by decide +kernel⟩
theorem sc_Amounts___add__ : FnScope ["self", "other", "numbers", "one", "two"] ["self", "other"] (defScope s_Amounts___add__) := ⟨rfl, rfl, rfl, by decide +kernel, rfl, by decide +kernel, by decide +kernel⟩
theorem sc_Amounts___and__ : FnScope ["self", "other", "numbers", "one", "two"] ["self", "other"] (defScope s_Amounts___and__) := ⟨rfl, rfl, rfl, by decide +kernel, rfl, by decide +kernel, by decide +kernel⟩
theorem sc_Amounts___or__ : FnScope ["self", "other", "numbers", "one", "two"] ["self", "other"] (defScope s_Amounts___or__) := ⟨rfl, rfl, rfl, by decide +kernel, rfl, by decide +kernel, by decide +kernel⟩
theorem sc_Amounts___contains__ : FnScope ["self", "row", "one", "two"] ["self", "row"] (defScope s_Amounts___contains__) := ⟨rfl, rfl, rfl, by decide +kernel, rfl, by decide +kernel, by decide +kernel⟩
theorem sc_Amounts___mul__ : FnScope ["self", "other", "numbers", "number"] ["self", "other"] (defScope s_Amounts___mul__) := ⟨rfl, rfl, rfl, by decide +kernel, rfl, by decide +kernel, by decide +kernel⟩
theorem sc_Amounts___floordiv__ : FnScope ["self", "other", "counts", "one", "two"] ["self", "other"] (defScope s_Amounts___floordiv__) := ⟨rfl, rfl, rfl, by decide +kernel, rfl, by decide +kernel, by decide +kernel⟩
theorem sc_Amounts___mod__ : FnScope ["self", "other"] ["self", "other"] (defScope s_Amounts___mod__) := ⟨rfl, rfl, rfl, by decide +kernel, rfl, by decide +kernel, by decide +kernel⟩
theorem sc_Amounts___bool__ : FnScope ["self", "number"] ["self"] (defScope s_Amounts___bool__) := ⟨rfl, rfl, rfl, by decide +kernel, rfl, by decide +kernel, by decide +kernel⟩
theorem sc_Amounts___eq__ : FnScope ["self", "other"] ["self", "other"] (defScope s_Amounts___eq__) := ⟨rfl, rfl, rfl, by decide +kernel, rfl, by decide +kernel, by decide +kernel⟩
theorem sc_Amounts___getitem__ : FnScope ["self", "at"] ["self", "at"] (defScope s_Amounts___getitem__) := ⟨rfl, rfl, rfl, by decide +kernel, rfl, by decide +kernel, by decide +kernel⟩
theorem sc_Amounts___len__ : FnScope ["self"] ["self"] (defScope s_Amounts___len__) := ⟨rfl, rfl, rfl, by decide +kernel, rfl, by decide +kernel, by decide +kernel⟩
theorem sc_Amounts___iter__ : FnScope ["self"] ["self"] (defScope s_Amounts___iter__) := ⟨rfl, rfl, rfl, by decide +kernel, rfl, by decide +kernel, by decide +kernel⟩
theorem sc__law_number : FnScope ["_law_pool_here", "_law_groups", "_law_kind", "_law_count", "_law_number_here", "_law_k", "_law_part"] ["_law_pool_here", "_law_groups"] (defScope s__law_number) := ⟨rfl, rfl, rfl, by decide +kernel, rfl, by decide +kernel, by decide +kernel⟩
theorem sc__law_signed : FnScope ["_law_pool_here", "_law_groups", "_law_number_here"] ["_law_pool_here", "_law_groups"] (defScope s__law_signed) := ⟨rfl, rfl, rfl, by decide +kernel, rfl, by decide +kernel, by decide +kernel⟩
theorem sc__law_whole : FnScope ["_law_value"] ["_law_value"] (defScope s__law_whole) := ⟨rfl, rfl, rfl, by decide +kernel, rfl, by decide +kernel, by decide +kernel⟩
theorem sc__law_near : FnScope ["_law_pool_here", "_law_number_here", "_law_way"] ["_law_pool_here", "_law_number_here"] (defScope s__law_near) := ⟨rfl, rfl, rfl, by decide +kernel, rfl, by decide +kernel, by decide +kernel⟩
theorem sc__law_row : FnScope ["_law_numbers"] ["_law_numbers"] (defScope s__law_row) := ⟨rfl, rfl, rfl, by decide +kernel, rfl, by decide +kernel, by decide +kernel⟩
theorem sc__law_within : FnScope ["_law_inner", "_law_outer", "_law_k"] ["_law_inner", "_law_outer"] (defScope s__law_within) := ⟨rfl, rfl, rfl, by decide +kernel, rfl, by decide +kernel, by decide +kernel⟩
theorem sc__law_is : FnScope ["_law_row_here", "_law_numbers", "_law_k"] ["_law_row_here", "_law_numbers"] (defScope s__law_is) := ⟨rfl, rfl, rfl, by decide +kernel, rfl, by decide +kernel, by decide +kernel⟩
theorem sc__law_subject : FnScope ["_law_one", "_law_other", "_law_way", "e", "_law_found"] ["_law_one", "_law_other", "_law_way"] (defScope s__law_subject) := ⟨rfl, rfl, rfl, by decide +kernel, rfl, by decide +kernel, by decide +kernel⟩
theorem sc__law_counted : FnScope ["_law_numbers", "_law_many", "e"] ["_law_numbers", "_law_many"] (defScope s__law_counted) := ⟨rfl, rfl, rfl, by decide +kernel, rfl, by decide +kernel, by decide +kernel⟩
theorem sc__law_pair : FnScope ["_law_one", "_law_a", "_law_other", "_law_b", "_law_third", "_law_c", "_law_least", "_law_most", "_law_k"] ["_law_one", "_law_a", "_law_other", "_law_b", "_law_third", "_law_c"] (defScope s__law_pair) := ⟨rfl, rfl, rfl, by decide +kernel, rfl, by decide +kernel, by decide +kernel⟩
theorem sc_law : FnScope ["_law_script", "_law_pool_here", "_law_count", "_law_a", "_law_b", "_law_c", "_law_size", "_law_d", "_law_one", "_law_other", "_law_third", "_law_unlike", "_law_plain", "_law_sizes", "_law_fifth", "_law_sixth", "_law_turn", "_law_way", "_law_many", "_law_k", "_law_number_here"] ["_law_script"] (defScope s_law) := ⟨rfl, rfl, rfl, by decide +kernel, rfl, by decide +kernel, by decide +kernel⟩
structure Ad where
  K : PySem.W.Frag
  GangError : Addr
  BadShare : Addr
  BadAmounts : Addr
  BadSpan : Addr
  Unknown : Addr
  Amounts : Addr
  fE : Addr
structure Txt (K : PySem.W.Frag) (mg : Str → Option Value) (c : Ad) : Prop where
  kk : c.K = K
  b_ValueError : mg "ValueError" = none
  b_len : mg "len" = none
  b_int : mg "int" = none
  b_abs : mg "abs" = none
  b_isinstance : mg "isinstance" = none
  b_bool : mg "bool" = none
  b_range : mg "range" = none
  b_list : mg "list" = none
  b_zip : mg "zip" = none
  b_all : mg "all" = none
  b_any : mg "any" = none
  b_min : mg "min" = none
  b_max : mg "max" = none
  b_tuple : mg "tuple" = none
  b_iter : mg "iter" = none
  g_GangError : mg "GangError" = some (.ref c.GangError)
  g_BadShare : mg "BadShare" = some (.ref c.BadShare)
  g_BadAmounts : mg "BadAmounts" = some (.ref c.BadAmounts)
  g_BadSpan : mg "BadSpan" = some (.ref c.BadSpan)
  g_Unknown : mg "Unknown" = some (.ref c.Unknown)
  g_Amounts : mg "Amounts" = some (.ref c.Amounts)
  o_Amounts : OwnC K mg "Amounts" c.Amounts
  sf_Amounts : PySem.W.selfFirst K c.Amounts = true
  na_Amounts_numbers : NoAttr K c.Amounts "numbers"
  ri_Amounts___mul__ : RightT K c.Amounts "int" "mul"
  e_BadAmounts : PySem.GErr.ErrTxt K mg "BadAmounts" c.BadAmounts c.fE
  x_BadAmounts_GangError : PySem.W.exmOne K (.ref c.BadAmounts) (.ref c.GangError) = some true
  k_BadAmounts_BadAmounts : PySem.W.kitOne K (.ref c.BadAmounts) (.ref c.BadAmounts) = some true
  k_BadAmounts_ValueError : PySem.W.kitOne K (.ref c.BadAmounts) (.type "ValueError") = some true
  k_BadAmounts_BadShare : PySem.W.kitOne K (.ref c.BadAmounts) (.ref c.BadShare) = some false
  k_BadAmounts_BadSpan : PySem.W.kitOne K (.ref c.BadAmounts) (.ref c.BadSpan) = some false
  gi_Amounts : Gets K c.Amounts
def spLaw (K : PySem.W.Frag) : Sp := fun vs H Q _ => vs.length = 1 ∧ ∃ (a : Addr) (ns : List Int), vs = [.ref a] ∧ SqL K H a (ns.map V.int) ∧ ns.length ≤ 63 ∧ (∀ n ∈ ns, Builtin.Int.intBits n ≤ 1048576) ∧ ∀ H', Q (.bl true) H'
/-- the pool of a law: three small numbers, a count, great numbers -/
def Pool (H : Hp) (p : Addr) : Prop := ∃ a b c n : Int, ∃ hs : List Int, H p = some (.lst (.int a :: .int b :: .int c :: .int n :: hs.map V.int)) ∧ (0 ≤ a ∧ a < 101) ∧ (0 ≤ b ∧ b < 103) ∧ (0 ≤ c ∧ c < 1009) ∧ hs.length ≤ 63
theorem putF_ne {f g : Str} {v x : V} {r : List (Str × V)} (h : ¬ g = f) : putF f v ((g, x) :: r) = (g, x) :: putF f v r := by
  show (if g = f then _ else _) = _
  rw [if_neg h]
theorem ints_at {ns : List Int} {i : Nat} {x : V} (hx : (ns.map V.int)[i]? = some x) : ∃ z, x = V.int z := by
  rw [List.getElem?_map] at hx
  cases q : ns[i]? with
  | none => rw [q] at hx; cases hx
  | some z => rw [q] at hx; exact ⟨z, (Option.some.inj hx).symm⟩
theorem map_at {α : Type} {f : α → V} {l : List α} {i : Nat} {x : V} (h : (l.map f)[i]? = some x) : ∃ r, l[i]? = some r ∧ x = f r := by
  rw [List.getElem?_map] at h
  cases q : l[i]? with
  | none => rw [q] at h; cases h
  | some r => rw [q] at h; exact ⟨r, rfl, (Option.some.inj h).symm⟩
theorem Pool.ext {H H' : Hp} {p : Addr} (h : Pool H p) (e : Ext H H') : Pool H' p := by
  obtain ⟨a, b, c, n, hs, h1, r⟩ := h
  exact ⟨a, b, c, n, hs, e.look h1, r⟩
theorem Pool.lst {H : Hp} {p : Addr} (h : Pool H p) : ∃ xs, H p = some (.lst xs) := by
  obtain ⟨a, b, c, n, hs, h1, r⟩ := h
  exact ⟨_, h1⟩
theorem Pool.ne {H : Hp} {p q : Addr} (h : Pool H p) (nq : H q = none) : q ≠ p := by
  obtain ⟨xs, h1⟩ := h.lst
  exact Ne.symm (ne_of_none h1 nq)
theorem Pool.but {H H' : Hp} {p q : Addr} (h : Pool H p) (e : But q H H') (n : q ≠ p) : Pool H' p := by
  obtain ⟨a, b, c, n', hs, h1, r⟩ := h
  exact ⟨a, b, c, n', hs, e.look (Ne.symm n) h1, r⟩

open GM
abbrev amF (u : Addr) : List (Str × V) := [("numbers", .ref u)]
theorem int_at {ns : List Int} {i : Nat} {x : V} (h : (ns.map V.int)[i]? = some x) : i < ns.length ∧ x = .int (ns.getD i 0) := by
  obtain ⟨z, hz, rfl⟩ := map_at h
  refine ⟨(List.getElem?_eq_some_iff.mp hz).1, ?_⟩
  rw [List.getD_eq_getElem?_getD, hz]
  rfl
theorem int_get {ns : List Int} {i : Nat} (h : i < ns.length) : (ns.map V.int)[i]? = some (.int (ns.getD i 0)) := by
  rw [List.getElem?_map, List.getD_eq_getElem?_getD, List.getElem?_eq_getElem h]
  rfl
theorem paired_get {α β : Type} {R : α → β → Prop} : ∀ {as : List α} {bs : List β} {i : Nat} {a : α}, Paired R as bs → as[i]? = some a → ∃ b, bs[i]? = some b ∧ R a b
  | _, _, 0, _, .cons r _, h => ⟨_, rfl, by obtain rfl := Option.some.inj h; exact r⟩
  | _, _, i + 1, _, .cons _ t, h => paired_get (i := i) t h
theorem rng_map {ns : List Int} (g : Int → Int) : (List.range ns.length).map (fun i => V.int (g (ns.getD i 0))) = (ns.map g).map V.int := by
  apply List.ext_getElem?
  intro i
  rw [List.getElem?_map, List.getElem?_map, List.getElem?_map]
  by_cases h : i < ns.length
  · have e : ns.getD i 0 = ns[i] := by rw [List.getD_eq_getElem?_getD, List.getElem?_eq_getElem h]; rfl
    rw [List.getElem?_range h, List.getElem?_eq_getElem h]
    simp only [Option.map_some, e]
  · rw [List.getElem?_eq_none (by simp; omega), List.getElem?_eq_none (by omega)]
    rfl
theorem rng_mapB {ns : List Int} (g : Int → Bool) : (List.range ns.length).map (fun i => V.bl (g (ns.getD i 0))) = (ns.map g).map V.bl := by
  apply List.ext_getElem?
  intro i
  rw [List.getElem?_map, List.getElem?_map, List.getElem?_map]
  by_cases h : i < ns.length
  · have e : ns.getD i 0 = ns[i] := by rw [List.getD_eq_getElem?_getD, List.getElem?_eq_getElem h]; rfl
    rw [List.getElem?_range h, List.getElem?_eq_getElem h]
    simp only [Option.map_some, e]
  · rw [List.getElem?_eq_none (by simp; omega), List.getElem?_eq_none (by omega)]
    rfl
theorem zip_at {α : Type} {xs ys : List Int} {g : Int → Int → α} {i : Nat} (h1 : i < xs.length) (h2 : i < ys.length) : (List.zipWith g xs ys)[i]? = some (g (xs.getD i 0) (ys.getD i 0)) := by
  rw [List.getElem?_zipWith, List.getElem?_eq_getElem h1, List.getElem?_eq_getElem h2, List.getD_eq_getElem?_getD, List.getD_eq_getElem?_getD, List.getElem?_eq_getElem h1, List.getElem?_eq_getElem h2]
  rfl
theorem rng_zip {α : Type} {xs ys : List Int} (g : Int → Int → α) (f : α → V) (h : xs.length = ys.length) : (List.range xs.length).map (fun i => f (g (xs.getD i 0) (ys.getD i 0))) = (List.zipWith g xs ys).map f := by
  apply List.ext_getElem?
  intro i
  rw [List.getElem?_map, List.getElem?_map]
  by_cases hi : i < xs.length
  · rw [List.getElem?_range hi, zip_at hi (by omega)]
    rfl
  · rw [List.getElem?_eq_none (by simp; omega), List.getElem?_eq_none (by simp; omega)]
    rfl
/-- each number of the inner row is at most that of the outer one -/
def within (inner outer : List Int) : Bool := (List.zipWith (fun o i => decide (i ≤ o)) outer inner).all id
theorem within_iff {ms ns : List Int} (h : ms.length = ns.length) : within ms ns = true ↔ ∀ i, i < ms.length → ms.getD i 0 ≤ ns.getD i 0 := by
  unfold within
  rw [List.all_eq_true]
  constructor
  · intro h1 i hi
    have h2 := h1 _ (List.mem_of_getElem? (zip_at (g := fun o i => decide (i ≤ o)) (show i < ns.length by omega) hi))
    exact of_decide_eq_true h2
  · intro h1 x hx
    obtain ⟨i, hi⟩ := List.mem_iff_getElem?.mp hx
    have hi2 : i < ms.length := by
      have := (List.getElem?_eq_some_iff.mp hi).1
      simp at this
      omega
    rw [zip_at (by omega) hi2] at hi
    obtain rfl := Option.some.inj hi
    exact decide_eq_true (h1 i hi2)
theorem zip_getD {xs ys : List Int} {g : Int → Int → Int} {i : Nat} (h1 : i < xs.length) (h2 : i < ys.length) : (List.zipWith g xs ys).getD i 0 = g (xs.getD i 0) (ys.getD i 0) := by
  rw [List.getD_eq_getElem?_getD, zip_at h1 h2]
  rfl
theorem within_min {xs ys zs : List Int} (h1 : xs.length = zs.length) (h2 : ys.length = zs.length) : within zs (List.zipWith (fun x y => min x y) xs ys) = (within zs xs && within zs ys) := by
  rw [Bool.eq_iff_iff, Bool.and_eq_true, within_iff (by simp; omega), within_iff (by omega), within_iff (by omega)]
  constructor
  · intro h
    refine ⟨fun i hi => ?_, fun i hi => ?_⟩
    · have := h i hi
      rw [zip_getD (by omega) (by omega)] at this
      omega
    · have := h i hi
      rw [zip_getD (by omega) (by omega)] at this
      omega
  · rintro ⟨ha, hb⟩ i hi
    rw [zip_getD (by omega) (by omega)]
    have := ha i hi
    have := hb i hi
    omega
theorem within_max {xs ys zs : List Int} (h1 : xs.length = zs.length) (h2 : ys.length = zs.length) : within (List.zipWith (fun x y => max x y) xs ys) zs = (within xs zs && within ys zs) := by
  have hl : (List.zipWith (fun x y => max x y) xs ys).length = zs.length := by simp; omega
  rw [Bool.eq_iff_iff, Bool.and_eq_true, within_iff hl, within_iff (by omega), within_iff (by omega), hl]
  constructor
  · intro h
    refine ⟨fun i hi => ?_, fun i hi => ?_⟩
    · have := h i (by omega)
      rw [zip_getD (by omega) (by omega)] at this
      omega
    · have := h i (by omega)
      rw [zip_getD (by omega) (by omega)] at this
      omega
  · rintro ⟨ha, hb⟩ i hi
    rw [zip_getD (by omega) (by omega)]
    have := ha i (by omega)
    have := hb i (by omega)
    omega

def sp__law_draw (c : Ad) : Sp := fun vs H Q _ => vs.length = 2 ∧ ∃ (p : Addr) (m : Int), vs = [.ref p, .int m] ∧ Pool H p ∧ 0 < m ∧ m ≤ 1000 ∧ ∀ r H', 0 ≤ r → r < m → But p H H' → Pool H' p → Q (.int r) H'
def sp__law_pool (c : Ad) : Sp := fun vs H Q _ => vs.length = 1 ∧ ∃ (a : Addr) (ns : List Int), vs = [.ref a] ∧ SqL c.K H a (ns.map V.int) ∧ ns.length ≤ 63 ∧ (∀ n ∈ ns, Builtin.Int.intBits n ≤ 1048576) ∧ ∀ p H', H p = none → Ext H H' → Pool H' p → Q (.ref p) H'
def sp_Amounts___init__ (c : Ad) : Sp := fun vs H Q E => vs.length = 2 ∧ ∃ (x dx p : Addr) (xs : List V), vs = [.ref x, .ref p] ∧ H x = some (.ins c.Amounts dx []) ∧ H p = some (.tup xs) ∧ (1 ≤ xs.length → xs.length ≤ 3 → ∀ H', But x H H' → H' x = some (.ins c.Amounts dx (amF p)) → Q .non H') ∧ (¬ (1 ≤ xs.length ∧ xs.length ≤ 3) → ∀ d H', Ext H H' → H' d = some (.xd (subj (.ref p))) → E (.ref c.BadAmounts) (some d) H')
def sp_paired (c : Ad) : Sp := fun vs H Q E => vs.length = 2 ∧ ∃ (a dx u b dy v : Addr) (xs ys : List Int), vs = [.ref a, .ref b] ∧ H a = some (.ins c.Amounts dx (amF u)) ∧ H u = some (.tup (xs.map V.int)) ∧ H b = some (.ins c.Amounts dy (amF v)) ∧ H v = some (.tup (ys.map V.int)) ∧ 1 ≤ xs.length ∧ xs.length ≤ 3 ∧ ys.length ≤ 3 ∧ (xs.length = ys.length → ∀ (q : Addr) (ts : List Addr) (H' : Hp), H q = none → Ext H H' → H' q = some (.lst (ts.map V.ref)) → ts.length = xs.length → (∀ i t, i < xs.length → ts[i]? = some t → H' t = some (.tup [.int (xs.getD i 0), .int (ys.getD i 0)])) → Q (.ref q) H') ∧ (xs.length ≠ ys.length → ∀ d H', Ext H H' → H' d = some (.xd (subj (.ref v))) → E (.ref c.BadAmounts) (some d) H')
def sp_Amounts___sub__ (c : Ad) : Sp := fun vs H Q E => vs.length = 2 ∧ ∃ (a dx u b dy v : Addr) (xs ys : List Int), vs = [.ref a, .ref b] ∧ H a = some (.ins c.Amounts dx (amF u)) ∧ H u = some (.tup (xs.map V.int)) ∧ H b = some (.ins c.Amounts dy (amF v)) ∧ H v = some (.tup (ys.map V.int)) ∧ 1 ≤ xs.length ∧ xs.length ≤ 3 ∧ ys.length ≤ 3 ∧ (xs.length = ys.length → ∀ x dx' w H', H x = none → Ext H H' → H' x = some (.ins c.Amounts dx' (amF w)) → H' w = some (.tup ((List.zipWith (fun x y => x - y) xs ys).map V.int)) → Q (.ref x) H') ∧ (xs.length ≠ ys.length → ∀ d H', Ext H H' → H' d = some (.xd (subj (.ref v))) → E (.ref c.BadAmounts) (some d) H')
def sp_Amounts___add__ (c : Ad) : Sp := fun vs H Q E => vs.length = 2 ∧ ∃ (a dx u b dy v : Addr) (xs ys : List Int), vs = [.ref a, .ref b] ∧ H a = some (.ins c.Amounts dx (amF u)) ∧ H u = some (.tup (xs.map V.int)) ∧ H b = some (.ins c.Amounts dy (amF v)) ∧ H v = some (.tup (ys.map V.int)) ∧ 1 ≤ xs.length ∧ xs.length ≤ 3 ∧ ys.length ≤ 3 ∧ (xs.length = ys.length → ∀ x dx' w H', H x = none → Ext H H' → H' x = some (.ins c.Amounts dx' (amF w)) → H' w = some (.tup ((List.zipWith (fun x y => x + y) xs ys).map V.int)) → Q (.ref x) H') ∧ (xs.length ≠ ys.length → ∀ d H', Ext H H' → H' d = some (.xd (subj (.ref v))) → E (.ref c.BadAmounts) (some d) H')
def sp_Amounts___and__ (c : Ad) : Sp := fun vs H Q E => vs.length = 2 ∧ ∃ (a dx u b dy v : Addr) (xs ys : List Int), vs = [.ref a, .ref b] ∧ H a = some (.ins c.Amounts dx (amF u)) ∧ H u = some (.tup (xs.map V.int)) ∧ H b = some (.ins c.Amounts dy (amF v)) ∧ H v = some (.tup (ys.map V.int)) ∧ 1 ≤ xs.length ∧ xs.length ≤ 3 ∧ ys.length ≤ 3 ∧ (xs.length = ys.length → ∀ x dx' w H', H x = none → Ext H H' → H' x = some (.ins c.Amounts dx' (amF w)) → H' w = some (.tup ((List.zipWith (fun x y => min x y) xs ys).map V.int)) → Q (.ref x) H') ∧ (xs.length ≠ ys.length → ∀ d H', Ext H H' → H' d = some (.xd (subj (.ref v))) → E (.ref c.BadAmounts) (some d) H')
def sp_Amounts___or__ (c : Ad) : Sp := fun vs H Q E => vs.length = 2 ∧ ∃ (a dx u b dy v : Addr) (xs ys : List Int), vs = [.ref a, .ref b] ∧ H a = some (.ins c.Amounts dx (amF u)) ∧ H u = some (.tup (xs.map V.int)) ∧ H b = some (.ins c.Amounts dy (amF v)) ∧ H v = some (.tup (ys.map V.int)) ∧ 1 ≤ xs.length ∧ xs.length ≤ 3 ∧ ys.length ≤ 3 ∧ (xs.length = ys.length → ∀ x dx' w H', H x = none → Ext H H' → H' x = some (.ins c.Amounts dx' (amF w)) → H' w = some (.tup ((List.zipWith (fun x y => max x y) xs ys).map V.int)) → Q (.ref x) H') ∧ (xs.length ≠ ys.length → ∀ d H', Ext H H' → H' d = some (.xd (subj (.ref v))) → E (.ref c.BadAmounts) (some d) H')
def sp_Amounts___contains__ (c : Ad) : Sp := fun vs H Q E => vs.length = 2 ∧ ∃ (a dx u b dy v : Addr) (xs ys : List Int), vs = [.ref a, .ref b] ∧ H a = some (.ins c.Amounts dx (amF u)) ∧ H u = some (.tup (xs.map V.int)) ∧ H b = some (.ins c.Amounts dy (amF v)) ∧ H v = some (.tup (ys.map V.int)) ∧ 1 ≤ xs.length ∧ xs.length ≤ 3 ∧ ys.length ≤ 3 ∧ (xs.length = ys.length → ∀ H', Ext H H' → Q (.bl (within ys xs)) H') ∧ (xs.length ≠ ys.length → ∀ d H', Ext H H' → H' d = some (.xd (subj (.ref v))) → E (.ref c.BadAmounts) (some d) H')
def sp_Amounts___mul__ (c : Ad) : Sp := fun vs H Q E => vs.length = 2 ∧ ∃ (a dx u : Addr) (xs : List Int) (n : Int), vs = [.ref a, .int n] ∧ H a = some (.ins c.Amounts dx (amF u)) ∧ H u = some (.tup (xs.map V.int)) ∧ 1 ≤ xs.length ∧ xs.length ≤ 3 ∧ (∀ i, i < xs.length → CM n (xs.getD i 0)) ∧ (∀ x dx' w H', H x = none → Ext H H' → H' x = some (.ins c.Amounts dx' (amF w)) → H' w = some (.tup ((xs.map (fun x => n * x)).map V.int)) → Q (.ref x) H')
def sp_Amounts___floordiv__ (c : Ad) : Sp := fun vs H Q E => vs.length = 2 ∧ ∃ (a dx u b dy v : Addr) (xs ys : List Int), vs = [.ref a, .ref b] ∧ H a = some (.ins c.Amounts dx (amF u)) ∧ H u = some (.tup (xs.map V.int)) ∧ H b = some (.ins c.Amounts dy (amF v)) ∧ H v = some (.tup (ys.map V.int)) ∧ 1 ≤ xs.length ∧ xs.length ≤ 3 ∧ ys.length ≤ 3 ∧ xs.length ≠ ys.length ∧ (∀ d H', Ext H H' → H' d = some (.xd (subj (.ref v))) → E (.ref c.BadAmounts) (some d) H')
def sp_Amounts___mod__ (c : Ad) : Sp := fun vs H Q E => vs.length = 2 ∧ ∃ (a dx u b dy v : Addr) (xs ys : List Int), vs = [.ref a, .ref b] ∧ H a = some (.ins c.Amounts dx (amF u)) ∧ H u = some (.tup (xs.map V.int)) ∧ H b = some (.ins c.Amounts dy (amF v)) ∧ H v = some (.tup (ys.map V.int)) ∧ 1 ≤ xs.length ∧ xs.length ≤ 3 ∧ ys.length ≤ 3 ∧ xs.length ≠ ys.length ∧ (∀ d H', Ext H H' → H' d = some (.xd (subj (.ref v))) → E (.ref c.BadAmounts) (some d) H')
def sp_Amounts___bool__ (c : Ad) : Sp := fun vs H Q E => vs.length = 1 ∧ ∃ (a dx u : Addr) (xs : List Int), vs = [.ref a] ∧ H a = some (.ins c.Amounts dx (amF u)) ∧ H u = some (.tup (xs.map V.int)) ∧ xs.length ≤ 3 ∧ ∀ H', Ext H H' → Q (.bl ((xs.map fun x => !decide (x = 0)).any id)) H'
def sp_Amounts___eq__ (c : Ad) : Sp := fun vs H Q E => vs.length = 2 ∧ ∃ (a dx u b dy v : Addr) (xs ys : List Int), vs = [.ref a, .ref b] ∧ H a = some (.ins c.Amounts dx (amF u)) ∧ H u = some (.tup (xs.map V.int)) ∧ H b = some (.ins c.Amounts dy (amF v)) ∧ H v = some (.tup (ys.map V.int)) ∧ Q (.bl (decide (xs = ys))) H
def sp_Amounts___getitem__ (c : Ad) : Sp := fun vs H Q E => vs.length = 2 ∧ ∃ (a dx u : Addr) (xs : List Int) (i : Nat), vs = [.ref a, .int (i : Int)] ∧ H a = some (.ins c.Amounts dx (amF u)) ∧ H u = some (.tup (xs.map V.int)) ∧ i < xs.length ∧ Q (.int (xs.getD i 0)) H
def sp_Amounts___len__ (c : Ad) : Sp := fun vs H Q E => vs.length = 1 ∧ ∃ (a dx u : Addr) (xs : List Int), vs = [.ref a] ∧ H a = some (.ins c.Amounts dx (amF u)) ∧ H u = some (.tup (xs.map V.int)) ∧ xs.length ≤ 3 ∧ Q (.int (xs.length : Int)) H
def sp_Amounts___iter__ (c : Ad) : Sp := fun vs H Q E => vs.length = 1 ∧ ∃ (a dx u : Addr) (xs : List Int), vs = [.ref a] ∧ H a = some (.ins c.Amounts dx (amF u)) ∧ H u = some (.tup (xs.map V.int)) ∧ xs.length ≤ 3 ∧ ∀ it H', H it = none → Ext H H' → H' it = some (TIt u it 0) → Q (.ref it) H'
def sp__law_number (c : Ad) : Sp := fun vs H Q _ => vs.length = 2 ∧ ∃ (p : Addr) (g : Nat), vs = [.ref p, .int (g : Int)] ∧ Pool H p ∧ 1 ≤ g ∧ g ≤ 10 ∧ ∀ r H', 0 ≤ r → r < 1000 ^ g → But p H H' → Pool H' p → Q (.int r) H'
def sp__law_signed (c : Ad) : Sp := fun vs H Q _ => vs.length = 2 ∧ ∃ (p : Addr) (g : Nat), vs = [.ref p, .int (g : Int)] ∧ Pool H p ∧ 1 ≤ g ∧ g ≤ 10 ∧ ∀ r H', -(1000 ^ g) < r → r < 1000 ^ g → But p H H' → Pool H' p → Q (.int r) H'
def sp__law_whole (c : Ad) : Sp := fun vs H Q _ => vs.length = 1 ∧ ∃ (i : Int), vs = [.int i] ∧ Q (.bl true) H
def sp__law_near (c : Ad) : Sp := fun vs H Q _ => vs.length = 2 ∧ ∃ (p : Addr) (n : Int), vs = [.ref p, .int n] ∧ Pool H p ∧ -(1000 ^ 10) < n ∧ n < 1000 ^ 10 ∧ ∀ r H', -(1000 ^ 10) < r → r < 1000 ^ 10 → But p H H' → Pool H' p → Q (.int r) H'
def sp__law_row (c : Ad) : Sp := fun vs H Q _ => vs.length = 1 ∧ ∃ (q : Addr) (ns : List Int), vs = [.ref q] ∧ H q = some (.lst (ns.map V.int)) ∧ 1 ≤ ns.length ∧ ns.length ≤ 3 ∧ ∀ x dx' w H', H x = none → Ext H H' → H' x = some (.ins c.Amounts dx' (amF w)) → H' w = some (.tup (ns.map V.int)) → Q (.ref x) H'
def sp__law_within (c : Ad) : Sp := fun vs H Q _ => vs.length = 2 ∧ ∃ (p q : Addr) (ms ns : List Int), vs = [.ref p, .ref q] ∧ H p = some (.lst (ms.map V.int)) ∧ H q = some (.lst (ns.map V.int)) ∧ ms.length = ns.length ∧ ms.length ≤ 3 ∧ Q (.bl (within ms ns)) H
def sp__law_is (c : Ad) : Sp := fun vs H Q _ => vs.length = 2 ∧ ∃ (x dx u q : Addr) (ns : List Int), vs = [.ref x, .ref q] ∧ H x = some (.ins c.Amounts dx (amF u)) ∧ H u = some (.tup (ns.map V.int)) ∧ H q = some (.lst (ns.map V.int)) ∧ 1 ≤ ns.length ∧ ns.length ≤ 3 ∧ ∀ H', Ext H H' → Q (.bl true) H'
def sp__law_subject (c : Ad) : Sp := fun vs H Q _ => vs.length = 3 ∧ ∃ (a dx u b dy v : Addr) (xs ys : List Int) (j : Nat), vs = [.ref a, .ref b, .int (j : Int)] ∧ H a = some (.ins c.Amounts dx (amF u)) ∧ H u = some (.tup (xs.map V.int)) ∧ H b = some (.ins c.Amounts dy (amF v)) ∧ H v = some (.tup (ys.map V.int)) ∧ 1 ≤ xs.length ∧ xs.length ≤ 3 ∧ ys.length ≤ 3 ∧ xs.length ≠ ys.length ∧ j < 7 ∧ ∀ q H', Ext H H' → H' q = some (.lst [.ref v]) → Q (.ref q) H'
def sp__law_counted (c : Ad) : Sp := fun vs H Q _ => vs.length = 2 ∧ ∃ (q : Addr) (ns : List Int) (j : Nat), vs = [.ref q, .int (j : Int)] ∧ H q = some (.lst (ns.map V.int)) ∧ ns.length = 5 ∧ (j = 0 ∨ j = 4 ∨ j = 5) ∧ ∀ H', Ext H H' → Q (.bl true) H'
def sp__law_pair (c : Ad) : Sp := fun vs H Q _ => vs.length = 6 ∧ ∃ (x dx u p y dy v q z dz e r : Addr) (xs ys zs : List Int), vs = [.ref x, .ref p, .ref y, .ref q, .ref z, .ref r] ∧ H x = some (.ins c.Amounts dx (amF u)) ∧ H u = some (.tup (xs.map V.int)) ∧ H p = some (.lst (xs.map V.int)) ∧ H y = some (.ins c.Amounts dy (amF v)) ∧ H v = some (.tup (ys.map V.int)) ∧ H q = some (.lst (ys.map V.int)) ∧ H z = some (.ins c.Amounts dz (amF e)) ∧ H e = some (.tup (zs.map V.int)) ∧ H r = some (.lst (zs.map V.int)) ∧ 1 ≤ xs.length ∧ xs.length ≤ 3 ∧ xs.length = ys.length ∧ xs.length = zs.length ∧ ∀ H', Ext H H' → Q (.bl true) H'
def sp_law (c : Ad) : Sp := spLaw c.K
theorem call_draw {c : Ad} {H : Hp} {Q : VK} {E : XK} {p : Addr} {m : Int} (hp : Pool H p) (h0 : 0 < m) (h1 : m ≤ 1000) (k : ∀ r H', 0 ≤ r → r < m → But p H H' → Pool H' p → Q (.int r) H') : sp__law_draw c [.ref p, .int m] H Q E := ⟨rfl, p, m, rfl, hp, h0, h1, k⟩
theorem call_pool {c : Ad} {H : Hp} {Q : VK} {E : XK} {a : Addr} {ns : List Int} (hS : SqL c.K H a (ns.map V.int)) (hn : ns.length ≤ 63) (hb : ∀ n ∈ ns, Builtin.Int.intBits n ≤ 1048576) (k : ∀ p H', H p = none → Ext H H' → Pool H' p → Q (.ref p) H') : sp__law_pool c [.ref a] H Q E := ⟨rfl, a, ns, rfl, hS, hn, hb, k⟩

theorem lcPool {J : It} {n : Nat} {G : Hp → Prop} {Y : Nat → Hp → V → Hp → Prop} {σ σw : L2.St} {H : Hp} {g : TG} {te : TE} {vs : List Nat} {Q : VK} (w : Walk J n G Y) [a : WipeS σ vs σw] (hn : n ≤ 1000000) {p : Addr} (hp : Pool H p) (R : Nat → V → Prop) (hG : ∀ H1, But p H H1 → G H1) (hY : ∀ i H1 x H1', Y i H1 x H1' → H1' = H1)
    (hs : ∀ i x H1 (k : VK), i < n → But p H H1 → Pool H1 p → Y i H1 x H1 → (∀ y H2, But p H1 H2 → Pool H2 p → R i y → k y H2) → g x σw H1 fun σ2 H2 => LcK vs σw te k σ2 H2)
    (hd : ∀ D ys H1, H D = none → But p H H1 → Pool H1 p → H1 D = some (.lst ys) → ys.length = n → (∀ i y, ys[i]? = some y → R i y) → Q (.ref D) H1) : rLc J g tYes te vs σ H Q := by
  obtain ⟨ps, hl⟩ := hp.lst
  exact lcB w hn hl (fun H1 => Pool H1 p) R hp (fun H1 H2 D b hS hD nD bD => hS.but bD nD) (fun H1 b _ => hG H1 b) (fun i H1 x H1' hy => by rw [hY i H1 x H1' hy]; exact Ext.rfl)
    (fun i x H1 H1' k hi b hS hy hk => by have e := hY i H1 x H1' hy; subst e; exact hs i x _ k hi b hS hy hk) hd
theorem ints_of {P : Int → Prop} : ∀ {ys : List V}, (∀ (i : Nat) (y : V), ys[i]? = some y → ∃ z, y = .int z ∧ P z) → ∃ ns : List Int, ys = ns.map V.int ∧ ∀ z ∈ ns, P z
  | [], _ => ⟨[], rfl, fun z hz => nomatch hz⟩
  | y :: ys, h => by
    obtain ⟨z, rfl, hz⟩ := h 0 y rfl
    obtain ⟨ns, rfl, hns⟩ := ints_of (ys := ys) fun i y hy => h (i + 1) y hy
    exact ⟨z :: ns, rfl, fun w hw => by rcases List.mem_cons.mp hw with rfl | hw; exact hz; exact hns w hw⟩

section
variable {c : Ad} {H : Hp} {Q : VK} {E : XK} {xs : List V}
theorem mk_am (h1 : 1 ≤ xs.length) (h3 : xs.length ≤ 3) (k : ∀ x dx u H', H x = none → Ext H H' → H' x = some (.ins c.Amounts dx (amF u)) → H' u = some (.tup xs) → Q (.ref x) H') : rMkR c.Amounts (sp_Amounts___init__ c) E xs H Q := by
  intro x dx hx hdx hne
  refine ⟨[.ref x], xs, rfl, rfl, by have := sizeLine_eq; omega, fun p hp => ⟨rfl, x, dx, p, xs, rfl, ?_, upd_same, fun _ _ H' b h' => ⟨rfl, ?_⟩, fun z => absurd ⟨h1, h3⟩ z⟩⟩
  · have np : x ≠ p := fun z => by rw [← z, upd_same] at hp; cases hp
    rw [upd_ne np, upd_same]
  · have np : x ≠ p := fun z => by rw [← z, upd_same] at hp; cases hp
    have hp' : H p = none := by
      by_cases e1 : p = x
      · exact absurd e1.symm np
      · rw [upd_ne e1] at hp
        by_cases e2 : p = dx
        · rw [e2, upd_same] at hp; cases hp
        · rw [upd_ne e2] at hp; exact hp
    refine k x dx p H' hx (fun a o z => b a o (ne_of_none z hx) ?_) h' (b p _ (Ne.symm np) upd_same)
    rw [upd_ne (ne_of_none z hp'), upd_ne (ne_of_none z hx), upd_ne (ne_of_none z hdx)]
    exact z
theorem mk_am_bad (h1 : ¬ (1 ≤ xs.length ∧ xs.length ≤ 3)) (hl : xs.length ≤ 1000) (k : ∀ u d H', Ext H H' → H' u = some (.tup xs) → H' d = some (.xd (subj (.ref u))) → E (.ref c.BadAmounts) (some d) H') : rMkR c.Amounts (sp_Amounts___init__ c) E xs H Q := by
  intro x dx hx hdx hne
  refine ⟨[.ref x], xs, rfl, rfl, by have := sizeLine_eq; omega, fun p hp => ⟨rfl, x, dx, p, xs, rfl, ?_, upd_same, fun a b => absurd ⟨a, b⟩ h1, fun _ d H' e hd => ?_⟩⟩
  · have np : x ≠ p := fun z => by rw [← z, upd_same] at hp; cases hp
    rw [upd_ne np, upd_same]
  · have np : x ≠ p := fun z => by rw [← z, upd_same] at hp; cases hp
    have hp' : H p = none := by
      by_cases e1 : p = x
      · exact absurd e1.symm np
      · rw [upd_ne e1] at hp
        by_cases e2 : p = dx
        · rw [e2, upd_same] at hp; cases hp
        · rw [upd_ne e2] at hp; exact hp
    refine k p d H' (fun a o z => e a o ?_) (e p _ upd_same) hd
    rw [upd_ne (ne_of_none z hp'), upd_ne (ne_of_none z hx), upd_ne (ne_of_none z hdx)]
    exact z
end

theorem call_whole {c : Ad} {H : Hp} {Q : VK} {E : XK} {n : Int} (k : Q (.bl true) H) : sp__law_whole c [.int n] H Q E := ⟨rfl, n, rfl, k⟩
theorem pow_ge {g : Nat} (h : 1 ≤ g) : (1000 : Int) ≤ 1000 ^ g := by
  have := Nat.pow_le_pow_right (show 0 < 1000 by decide) h
  exact_mod_cast this
theorem pow_le {i g : Nat} (h : i ≤ g) : (1000 : Int) ^ i ≤ 1000 ^ g := by
  have := Nat.pow_le_pow_right (show 0 < 1000 by decide) h
  exact_mod_cast this

end K04
namespace K04
open PySem L2 GG PyProof.Rows
open GM
local macro_rules | `(tactic| got_up) => `(tactic| first
  | assumption
  | (refine Ext.look (by assumption) ?_; got_up)
  | (refine But.look (by assumption) (by first | assumption | (exact Ne.symm (by assumption))) ?_; got_up)
  | (refine But.lookK (by assumption) (by got_up) (by got_up) (by intro hh; cases hh)))
local macro_rules | `(tactic| mem_news) => `(tactic| first
  | ((with_reducible refine' v_ixL ?h1 ?h2 ?h3 ?_); (case h1 => with_reducible got_up); (case h2 => decide); (case h3 => with_unfolding_all rfl))
  | ((with_reducible refine' v_ixT ?h1 ?h2 ?h3 ?_); (case h1 => with_reducible got_up); (case h2 => decide); (case h3 => with_unfolding_all rfl))
  | ((with_reducible refine' r_fld ?h1 ?h2 ?h3 ?h4 ?_); (case h1 => with_reducible got_up); (case h2 => assumption); (case h3 => assumption); (case h4 => with_unfolding_all rfl))
  | ((with_reducible refine' v_mod ?h1 ?_); (case h1 => first | assumption | decide | omega))
  | ((with_reducible refine' v_mul ?h1 ?_); (case h1 => first | exact CM.left (by omega) (by omega) | exact CM.right (by omega) (by omega)))
  | ((with_reducible refine' r_tup ?h1 ?_); (case h1 => simp); intro _ _ _ _ _)
  | ((with_reducible refine' r_lst ?h1 ?_); (case h1 => simp); intro _ _ _ _ _)
  | ((with_reducible refine' v_lenL ?h1 ?_); (case h1 => with_reducible got_up))
  | ((with_reducible refine' v_lenT ?h1 ?_); (case h1 => with_reducible got_up))
  | ((with_reducible refine' g_tup ?h1 ?h2 ?_); (case h1 => with_reducible got_up); (case h2 => with_unfolding_all rfl))
  | ((with_reducible refine' r_rng1 ?h1 ?h2 ?_); (case h1 => decide); (case h2 => decide))
  | ((with_reducible refine' r_seqL ?h1 ?_); (case h1 => with_reducible got_up))
  | ((with_reducible refine' r_seqT ?h1 ?_); (case h1 => with_reducible got_up))
  | ((with_reducible refine' v_own ?h1 ?h2 ?_); (case h1 => with_reducible got_up); (case h2 => with_reducible got_up))
  | ((with_reducible refine' v_ownI ?h1 ?_); (case h1 => with_reducible got_up))
  | ((with_reducible refine' v_ownIn ?h1 ?_); (case h1 => with_reducible got_up))
  | ((with_reducible refine' v_own1 ?h1 ?_); (case h1 => with_reducible got_up))
  | ((with_reducible refine' v_ownC ?h1 ?_); (case h1 => with_reducible got_up))
  | ((with_reducible refine' v_ownB ?h1 ?_); (case h1 => with_reducible got_up))
  | ((with_reducible refine' v_ownLen ?h1 ?_); (case h1 => with_reducible got_up))
  | ((with_reducible refine' v_mt ?h1 ?h2 ?_); (case h1 => with_reducible got_up); (case h2 => with_unfolding_all rfl))
  | ((with_reducible refine' v_isO ?h1 ?h2 ?_); (case h1 => with_reducible got_up); (case h2 => assumption))
  | ((with_reducible refine' And.intro (ty_list ?h1) ?_); (case h1 => with_reducible got_up))
  | ((with_reducible refine' v_eqT2 ?h1 ?h2 ?_); (case h1 => with_reducible got_up); (case h2 => with_reducible got_up))
  | ((with_reducible refine' run_tryAs ?_); intro _ _)
  | (with_reducible refine call_whole ?_)
  | ((with_reducible refine' v_isTT ?h1 ?_); (case h1 => with_reducible got_up))
  | ((with_reducible refine' v_get ?h1 ?_); (case h1 => with_reducible got_up))
  | ((with_reducible refine' v_listT ?h1 ?_); (case h1 => with_reducible got_up); intro _ _ _ _ _)
  | ((with_reducible refine' v_listL ?h1 ?_); (case h1 => with_reducible got_up); intro _ _ _ _ _)
  | ((with_reducible refine' v_tupL ?h1 ?_); (case h1 => with_reducible got_up); intro _ _ _ _ _)
  | ((with_reducible refine' run_tryOnly ?_); intro _ _))
local macro_rules | `(tactic| end_int) => do
  let r := Lean.mkIdent `rest_
  let h := Lean.mkIdent `hrest_
  `(tactic| first | (with_reducible refine StP.h ?_) | ((with_reducible refine run_seqG ?_); intro $r:ident $h:ident) | ((with_reducible refine run_rest $r ?_); subst $h:ident) | mem_news)
local macro_rules | `(tactic| reads_via) => `(tactic| repeat' end_int)
local macro_rules | `(tactic| o_reads) => do
  let r := Lean.mkIdent `rest_
  let h := Lean.mkIdent `hrest_
  `(tactic| repeat ((fail_if_success (with_reducible refine is_if ?_)); first | (with_reducible refine St1.h ?_) | ((with_reducible refine run_seqG ?_); intro $r:ident $h:ident) | ((with_reducible refine run_rest $r ?_); subst $h:ident) | mem_news))
local macro_rules | `(tactic| end_str) => `(tactic| repeat' (first | end_int | (with_reducible refine br_yes (by first | assumption | decide | omega | (simp; done) | fail) ?_) | (with_reducible refine br_no (by first | assumption | decide | omega | (simp; done) | fail) ?_) | fail))

set_option maxHeartbeats 1000000 in
theorem ok__law_draw {P : Program} {w : World} {K : PySem.W.Frag} {mg : Str → Option Value} {base : Heap} {c : Ad} {f : Addr} {fd : FuncData} (F : Fun K "_law_draw" "_law_draw" s__law_draw f fd) (T : Txt K mg c)  :
    FnOk P w K mg base (L2N.CX P w) 1 f fd ["_law_pool_here", "_law_many"] (sp__law_draw c) := by
  refine GG.Fun.okN F sc__law_draw (fun vs H Q E h => h.1) (fun cdv ar ou sh H vs Q E hr h => ?_)
  obtain ⟨_, p, m, rfl, ⟨a, b, c, n, hs, hp, ha, hb, hc, hl⟩, hm0, hm1, k⟩ := h
  have tk := L2N.takes_of (X := cxOf (L2N.CX P w) P w K mg base ["_law_pool_here", "_law_many", "_law_first", "_law_second", "_law_found"] "_law_draw" (defScope s__law_draw) f cdv ar ou sh H E) rfl rfl rfl rfl
  refine ⟨_, (pss_cons (ps_asg (pe_op (u_add K) (pe_ix (u_ix K) (pv 0) pe_int (fun _ _ => rfl)) pe_int) (pg_sub (pv 0) pe_int u_set))
      (pss_cons (ps_if (pt_cmpR u_gt (pe_callB (c_len K) (by rfl) T.b_len (by decide +kernel) (pa_cons (pv 0) pa_nil)) pe_int (nomark _))
      (pss_cons (ps_asg (pe_op u_mod (pe_callTy c_int (by rfl) T.b_int (by decide +kernel) (pa_cons (pe_ix (u_ix K) (pv 0) pe_int (fun _ _ => rfl)) pa_nil)) (pv 1)) (pg_name (i := 4) sc__law_draw.nd rfl (Or.inl rfl)))
      (pss_cons (ps_asg (pe_op u_fdiv (pe_ix (u_ix K) (pv 0) pe_int (fun _ _ => rfl)) (pv 1)) (pg_sub (pv 0) pe_int u_set))
      (pss_cons (ps_if (pt_cmpR (u_eq K hr.units) (pe_ix (u_ix K) (pv 0) pe_int (fun _ _ => rfl)) pe_int (nomark _))
      (pss_one (ps_expr (pe_bmK K (pe_bm PySem.F.plainAttrs_list PySem.F.slot_list_pop PySem.F.type_list_pop m_popAt (pv 0) (pa_cons pe_int pa_nil)))))
      pss_nil)
      (pss_one (ps_ret (pv 4))))))
      pss_nil)
      (pss_cons (ps_asg (pe_op u_mod (pe_callTy c_int (by rfl) T.b_int (by decide +kernel) (pa_cons (pe_op (u_add K) (pe_ix (u_ix K) (pv 0) pe_int (fun _ _ => rfl)) (pe_op u_mul pe_int (pe_ix (u_ix K) (pv 0) pe_int (fun _ _ => rfl)))) pa_nil)) pe_int) (pg_name (i := 2) sc__law_draw.nd rfl (Or.inl rfl)))
      (pss_cons (ps_asg (pe_op u_mod (pe_callTy c_int (by rfl) T.b_int (by decide +kernel) (pa_cons (pe_op (u_add K) (pe_ix (u_ix K) (pv 0) pe_int (fun _ _ => rfl)) (pe_op u_mul (pv 2) (pv 2))) pa_nil)) pe_int) (pg_name (i := 3) sc__law_draw.nd rfl (Or.inl rfl)))
      (pss_one (ps_ret (pe_op u_mod (pe_op u_mod (pe_callTy c_int (by rfl) T.b_int (by decide +kernel) (pa_cons (pe_op (u_add K) (pe_op (u_add K) (pe_ix (u_ix K) (pv 0) pe_int (fun _ _ => rfl)) (pe_op u_mul pe_int (pe_ix (u_ix K) (pv 0) pe_int (fun _ _ => rfl)))) (pe_op u_mul (pv 3) (pv 3))) pa_nil)) pe_int) (pv 1)))))))), ?_⟩
  try dsimp only [L2H.cxH, cxOf, Cx.suite, Cx.tr, List.map_cons, List.map_nil]
  refine run_start (σ := [some (.ref p), some (.int m), none, none, none]) rfl ?_
  clear tk
  reads_via
  refine v_set (by got_up) (by decide) (by simp) fun H1 e1 h1 => ?_
  simp only [Int.reduceToNat, List.set_cons_succ, List.set_cons_zero] at h1
  reads_via
  refine br_d (fun c1 => ?_) (fun c1 => ?_)
  · obtain ⟨h0, hs, rfl⟩ : ∃ h0 t, hs = h0 :: t := by
      cases hs with
      | nil => simp at c1
      | cons x t => exact ⟨x, t, rfl⟩
    simp only [List.map_cons] at h1
    simp only [List.length_cons] at hl
    reads_via
    refine v_fdiv (cd_small hm0 (by omega)) ?_
    reads_via
    refine v_set (by got_up) (by decide) (by simp) fun H2 e2 h2 => ?_
    simp only [Int.reduceToNat, List.set_cons_succ, List.set_cons_zero] at h2
    reads_via
    refine br_d (fun c2 => ?_) (fun c2 => ?_)
    · reads_via
      refine v_popAt (by got_up) (by decide) (by decide) (by with_unfolding_all rfl) fun H3 e3 h3 => ?_
      simp only [Int.reduceToNat, List.eraseIdx_cons_succ, List.eraseIdx_cons_zero] at h3
      reads_via
      exact k _ _ (Int.emod_nonneg _ (by omega)) (Int.emod_lt_of_pos _ hm0) ((e1.trans e2).trans e3) ⟨a, b, c, n + 1, hs, h3, ha, hb, hc, by omega⟩
    · reads_via
      exact k _ _ (Int.emod_nonneg _ (by omega)) (Int.emod_lt_of_pos _ hm0) (e1.trans e2) ⟨a, b, c, n + 1, _ :: hs, h2, ha, hb, hc, by simp; omega⟩
  · reads_via
    exact k _ _ (Int.emod_nonneg _ (by omega)) (Int.emod_lt_of_pos _ hm0) e1 ⟨a, b, c, n + 1, hs, h1, ha, hb, hc, hl⟩
set_option maxHeartbeats 1000000 in
theorem ok__law_pool {P : Program} {w : World} {K : PySem.W.Frag} {mg : Str → Option Value} {base : Heap} {c : Ad} {f : Addr} {fd : FuncData} (F : Fun K "_law_pool" "_law_pool" s__law_pool f fd) (T : Txt K mg c)  :
    FnOk P w K mg base (L2N.CX P w) 1 f fd ["_law_script"] (sp__law_pool c) := by
  refine GG.Fun.okN F sc__law_pool (fun vs H Q E h => h.1) (fun cdv ar ou sh H vs Q E hr h => ?_)
  obtain ⟨_, a, ns, rfl, hS, hn, hb, k⟩ := h
  rw [T.kk] at hS
  have tk := L2N.takes_of (X := cxOf (L2N.CX P w) P w K mg base ["_law_script", "_law_pool_here", "_law_cell"] "_law_pool" (defScope s__law_pool) f cdv ar ou sh H E) rfl rfl rfl rfl
  refine ⟨_, (pss_cons (ps_asg (pe_lst (pa_cons pe_int (pa_cons pe_int (pa_cons pe_int (pa_cons pe_int pa_nil))))) (pg_name (i := 1) sc__law_pool.nd rfl (Or.inl rfl)))
      (pss_cons (ps_for (passes_of rfl) rfl (pi_listK K (pi_list (pv 0))) (pg_name (i := 2) sc__law_pool.nd rfl (Or.inl rfl))
      (pss_one (ps_if (pt_cmpR u_ge (pv 2) (pe_op u_pow pe_int pe_int) (nomark _))
      (pss_one (ps_expr (pe_bmK K (pe_bm PySem.F.plainAttrs_list PySem.F.slot_list_append PySem.F.type_list_append m_append (pv 1) (pa_cons (pv 2) pa_nil)))))
      (pss_cons (ps_asg (pe_op u_mod (pe_callTy c_int (by rfl) T.b_int (by decide +kernel) (pa_cons (pe_op (u_add K) (pe_op u_mul (pe_ix (u_ix K) (pv 1) pe_int (fun _ _ => rfl)) pe_int) (pv 2)) pa_nil)) pe_int) (pg_sub (pv 1) pe_int u_set))
      (pss_cons (ps_asg (pe_op u_mod (pe_callTy c_int (by rfl) T.b_int (by decide +kernel) (pa_cons (pe_op (u_add K) (pe_op u_mul (pe_ix (u_ix K) (pv 1) pe_int (fun _ _ => rfl)) pe_int) (pe_op u_mul (pv 2) (pv 2))) pa_nil)) pe_int) (pg_sub (pv 1) pe_int u_set))
      (pss_one (ps_asg (pe_op u_mod (pe_callTy c_int (by rfl) T.b_int (by decide +kernel) (pa_cons (pe_op (u_add K) (pe_op u_mul (pe_ix (u_ix K) (pv 1) pe_int (fun _ _ => rfl)) pe_int) (pe_op u_mul (pv 2) pe_int)) pa_nil)) pe_int) (pg_sub (pv 1) pe_int u_set))))))))
      (pss_one (ps_ret (pv 1))))), ?_⟩
  try dsimp only [L2H.cxH, cxOf, Cx.suite, Cx.tr, List.map_cons, List.map_nil]
  refine run_start (σ := [some (.ref a), none, none]) rfl ?_
  clear tk
  reads_via
  rename_i p H0 np e0 h0
  refine r_seqLK (e0.sq hS) ?_
  refine f_list (xs := ns.map V.int) (fun i σ H' => ∃ v, σ = [some (.ref a), some (.ref p), v] ∧ Ext H H' ∧ i ≤ ns.length ∧ ∃ a b c n : Int, ∃ hs : List Int, H' p = some (.lst (.int a :: .int b :: .int c :: .int n :: hs.map V.int)) ∧ (0 ≤ a ∧ a < 101) ∧ (0 ≤ b ∧ b < 103) ∧ (0 ≤ c ∧ c < 1009) ∧ hs.length ≤ i) ?_ ?_ ?_ ?_
  · exact ⟨none, rfl, e0, Nat.zero_le _, 1, 2, 3, 0, [], h0, by decide, by decide, by decide, Nat.le_refl _⟩
  · rintro i σ H' hi ⟨v, rfl, e, _⟩
    exact e.sq hS
  · rintro i x σ H' hx ⟨v, rfl, e, hi, a1, b1, c1, n1, hs, h1, ha, hb1, hc, hl⟩
    obtain ⟨z, hz, rfl⟩ : ∃ z, ns[i]? = some z ∧ x = V.int z := by
      rw [List.getElem?_map] at hx
      cases q : ns[i]? with
      | none => rw [q] at hx; cases hx
      | some z => rw [q] at hx; exact ⟨z, rfl, (Option.some.inj hx).symm⟩
    have hi' : i < ns.length := (List.getElem?_eq_some_iff.mp hz).1
    have hbz := hb z (List.mem_of_getElem? hz)
    reads_via
    refine v_pow ⟨by decide, by decide, by decide⟩ ?_
    reads_via
    refine br_d (fun c2 => ?_) (fun c2 => ?_)
    · reads_via
      refine v_append (by got_up) (by simp; omega) fun H2 e2 h2 => ?_
      reads_via
      refine ⟨_, rfl, e2.ext e np, hi', a1, b1, c1, n1, hs ++ [z], ?_, ha, hb1, hc, by simp; omega⟩
      rw [h2]
      simp
    · reads_via
      refine v_set (by got_up) (by decide) (by simp) fun H2 e2 h2 => ?_
      simp only [Int.reduceToNat, List.set_cons_succ, List.set_cons_zero] at h2
      reads_via
      refine v_mul (IntMulOk.of_bits hbz hbz) ?_
      reads_via
      refine v_set (by got_up) (by decide) (by simp) fun H3 e3 h3 => ?_
      simp only [Int.reduceToNat, List.set_cons_succ, List.set_cons_zero] at h3
      reads_via
      refine v_set (by got_up) (by decide) (by simp) fun H4 e4 h4 => ?_
      simp only [Int.reduceToNat, List.set_cons_succ, List.set_cons_zero] at h4
      reads_via
      exact ⟨_, rfl, ((e2.trans e3).trans e4).ext e np, hi', _, _, _, _, hs, h4, ⟨Int.emod_nonneg _ (by decide), Int.emod_lt_of_pos _ (by decide)⟩, ⟨Int.emod_nonneg _ (by decide), Int.emod_lt_of_pos _ (by decide)⟩, ⟨Int.emod_nonneg _ (by decide), Int.emod_lt_of_pos _ (by decide)⟩, by omega⟩
  · rintro σ H' ⟨v, rfl, e, hi, a1, b1, c1, n1, hs, h1, ha, hb1, hc, hl⟩
    reads_via
    exact k p H' np e ⟨a1, b1, c1, n1, hs, h1, ha, hb1, hc, by simp at hl; omega⟩
set_option maxHeartbeats 1000000 in
theorem ok_Amounts___init__ {P : Program} {w : World} {K : PySem.W.Frag} {mg : Str → Option Value} {base : Heap} {c : Ad} {f : Addr} {fd : FuncData} (F : Fun K "__init__" "Amounts.__init__" s_Amounts___init__ f fd) (T : Txt K mg c)  :
    FnR P w K mg base (L2N.CX P w) 1 f (star1 (sp_Amounts___init__ c)) := by
  refine GG.Fun.okStar F sc_Amounts___init__ (by intros; rfl) (by intros; rfl) (fun cdv ar ou sh H vs Q E hr h => ?_)
  obtain ⟨_, x, dx, p, xs, rfl, hx, hp, kQ, kE⟩ := h
  have hO := T.o_Amounts
  have hcl := T.o_Amounts.cl
  have hn1 := T.na_Amounts_numbers
  have tk := L2N.takes_of (X := cxOf (L2N.CX P w) P w K mg base ["self", "numbers"] "Amounts.__init__" (defScope s_Amounts___init__) f cdv ar ou sh H E) rfl rfl rfl rfl
  refine ⟨_, (pss_cons (ps_if (pt_not (pt_chain u_le u_le pe_int (pe_callB (c_len K) (by rfl) T.b_len (by decide +kernel) (pa_cons (pv 1) pa_nil)) pe_int))
      (pss_one (ps_raiseErr T.e_BadAmounts hr tk (pa_cons (pv 1) pa_nil)))
      pss_nil)
      (pss_one (ps_fldK K (ps_fld (pv 0) (pv 1) rfl)))), ?_⟩
  try dsimp only [L2H.cxH, cxOf, Cx.suite, Cx.tr, List.map_cons, List.map_nil]
  refine run_start (σ := [some (.ref x), some (.ref p)]) rfl ?_
  clear tk
  reads_via
  refine br_d (fun c1 => ?_) (fun c1 => ?_)
  · reads_via
    refine br_d (fun c2 => ?_) (fun c2 => ?_)
    · reads_via
      refine r_putF (by got_up) hcl hn1 (by show 0 < 1000; decide) (chg fun H1 e1 h1 => ?_)
      exact kQ (by omega) (by omega) H1 e1 h1
    · reads_via
      refine v_raise fun d H2 nd e2 h2 => ?_
      exact kE (by omega) d H2 e2 h2
  · reads_via
    refine v_raise fun d H2 nd e2 h2 => ?_
    exact kE (by omega) d H2 e2 h2
set_option maxHeartbeats 1000000 in
theorem ok_paired {P : Program} {w : World} {K : PySem.W.Frag} {mg : Str → Option Value} {base : Heap} {c : Ad} {f : Addr} {fd : FuncData} (F : Fun K "paired" "paired" s_paired f fd) (T : Txt K mg c)  :
    FnOk P w K mg base (L2N.CX P w) 1 f fd ["left", "right"] (sp_paired c) := by
  refine GG.Fun.okN F sc_paired (fun vs H Q E h => h.1) (fun cdv ar ou sh H vs Q E hr h => ?_)
  obtain ⟨_, a, dx, u, b, dy, v, xs, ys, rfl, ha, hu, hb, hv, l1, l2, l3, kQ, kE⟩ := h
  have hO := T.o_Amounts
  have hcl := T.o_Amounts.cl
  have hn1 := T.na_Amounts_numbers
  have tk := L2N.takes_of (X := cxOf (L2N.CX P w) P w K mg base ["left", "right"] "paired" (defScope s_paired) f cdv ar ou sh H E) rfl rfl rfl rfl
  refine ⟨_, (pss_cons (ps_if (pt_cmpR (u_ne K hr.units) (pe_callB (c_len K) (by rfl) T.b_len (by decide +kernel) (pa_cons (pe_fldK K (pe_fld (pv 0) rfl)) pa_nil)) (pe_callB (c_len K) (by rfl) T.b_len (by decide +kernel) (pa_cons (pe_fldK K (pe_fld (pv 1) rfl)) pa_nil)) (nomark _))
      (pss_one (ps_raiseErr T.e_BadAmounts hr tk (pa_cons (pe_fldK K (pe_fld (pv 1) rfl)) pa_nil)))
      pss_nil)
      (pss_one (ps_ret (pe_zipLK K (pe_zipL rfl (by rfl) T.b_list (by rfl) T.b_zip (pa_cons (pe_fldK K (pe_fld (pv 0) rfl)) (pa_cons (pe_fldK K (pe_fld (pv 1) rfl)) pa_nil))))))), ?_⟩
  try dsimp only [L2H.cxH, cxOf, Cx.suite, Cx.tr, List.map_cons, List.map_nil]
  refine run_start (σ := [some (.ref a), some (.ref b)]) rfl ?_
  clear tk
  reads_via
  simp only [List.length_map]
  refine br_d (fun c1 => ?_) (fun c1 => ?_)
  · reads_via
    refine v_zipL (by got_up) (by got_up) (by simp; omega) (by have := sizeLine_eq; simp; omega) fun q ts H1 nq e1 hq pr => ?_
    have hl := pr.length
    rw [List.length_zip, List.length_map, List.length_map] at hl
    refine kQ (by omega) q ts H1 nq e1 hq (by omega) fun i t hi ht => ?_
    have hz : (List.zip (xs.map V.int) (ys.map V.int))[i]? = some (.int (xs.getD i 0), .int (ys.getD i 0)) := by
      rw [List.getElem?_zip_eq_some]
      exact ⟨int_get hi, int_get (by omega)⟩
    obtain ⟨w, hw, rw'⟩ := paired_get pr ht
    rw [hz] at hw
    cases hw
    exact rw'
  · reads_via
    refine v_raise fun d H2 nd e2 h2 => ?_
    exact kE (by omega) d H2 e2 h2
set_option maxHeartbeats 1000000 in
theorem ok_Amounts___bool__ {P : Program} {w : World} {K : PySem.W.Frag} {mg : Str → Option Value} {base : Heap} {c : Ad} {f : Addr} {fd : FuncData} (F : Fun K "__bool__" "Amounts.__bool__" s_Amounts___bool__ f fd) (T : Txt K mg c)  :
    FnOk P w K mg base (L2N.CX P w) 1 f fd ["self"] (sp_Amounts___bool__ c) := by
  refine GG.Fun.okN F sc_Amounts___bool__ (fun vs H Q E h => h.1) (fun cdv ar ou sh H vs Q E hr h => ?_)
  obtain ⟨_, a, dx, u, xs, rfl, ha, hu, l3, k⟩ := h
  have hO := T.o_Amounts
  have hcl := T.o_Amounts.cl
  have hn1 := T.na_Amounts_numbers
  have tk := L2N.takes_of (X := cxOf (L2N.CX P w) P w K mg base ["self", "number"] "Amounts.__bool__" (defScope s_Amounts___bool__) f cdv ar ou sh H E) rfl rfl rfl rfl
  refine ⟨_, (pss_one (ps_ret (pe_callB (c_any K rfl) (by rfl) T.b_any (by decide +kernel) (pa_cons (pe_lcV [1] (pe_lc (own := [("number", 1)]) (by rfl) sc_Amounts___bool__.nd (pi_tupK K (pi_tup (pe_fldK K (pe_fld (pv 0) rfl)))) (blkOk_by (own := [("number", 1)]) (N := ["self", "number"]) (sc := defScope s_Amounts___bool__) (by decide +kernel)) (fun _ _ _ _ _ => (pg_name (i := 1) sc_Amounts___bool__.nd rfl (Or.inl rfl))) (fun _ _ _ _ _ => pts_nil) (fun _ _ _ _ _ => (pe_cmpR (u_ne K hr.units) (pv 1) pe_int (nomark _))))) pa_nil)))), ?_⟩
  try dsimp only [L2H.cxH, cxOf, Cx.suite, Cx.tr, List.map_cons, List.map_nil]
  refine run_start (σ := [some (.ref a), none]) rfl ?_
  clear tk
  reads_via
  refine lcPT (by got_up) (by simp; omega) (fun i => .bl ((fun x => !decide (x = 0)) (xs.getD i 0))) (fun i x H2 k hx e2 hk => ?_) fun D H2 nD e2 h2 => ?_
  · obtain ⟨hi, rfl⟩ := int_at hx
    reads_via
    exact hk _ Ext.rfl
  rw [List.length_map, rng_mapB fun x => !decide (x = 0)] at h2
  reads_via
  refine v_any (by got_up) ?_
  exact k H2 e2
set_option maxHeartbeats 1000000 in
theorem ok_Amounts___eq__ {P : Program} {w : World} {K : PySem.W.Frag} {mg : Str → Option Value} {base : Heap} {c : Ad} {f : Addr} {fd : FuncData} (F : Fun K "__eq__" "Amounts.__eq__" s_Amounts___eq__ f fd) (T : Txt K mg c)  :
    FnOk P w K mg base (L2N.CX P w) 1 f fd ["self", "other"] (sp_Amounts___eq__ c) := by
  refine GG.Fun.okN F sc_Amounts___eq__ (fun vs H Q E h => h.1) (fun cdv ar ou sh H vs Q E hr h => ?_)
  obtain ⟨_, a, dx, u, b, dy, v, xs, ys, rfl, ha, hu, hb, hv, k⟩ := h
  have hO := T.o_Amounts
  have hcl := T.o_Amounts.cl
  have hn1 := T.na_Amounts_numbers
  have tk := L2N.takes_of (X := cxOf (L2N.CX P w) P w K mg base ["self", "other"] "Amounts.__eq__" (defScope s_Amounts___eq__) f cdv ar ou sh H E) rfl rfl rfl rfl
  refine ⟨_, (pss_one (ps_ret (pe_and (pe_callB (c_isi K) (by rfl) T.b_isinstance (by decide +kernel) (pa_cons (pv 1) (pa_cons (pe_glob (v := .ref c.Amounts) rfl T.g_Amounts rfl) pa_nil))) (pe_one (pe_cmpR (u_eq K hr.units) (pe_fldK K (pe_fld (pv 0) rfl)) (pe_fldK K (pe_fld (pv 1) rfl)) (nomark _)))))), ?_⟩
  try dsimp only [L2H.cxH, cxOf, Cx.suite, Cx.tr, List.map_cons, List.map_nil]
  refine run_start (σ := [some (.ref a), some (.ref b)]) rfl ?_
  clear tk
  reads_via
  refine v_eqTI (by got_up) (by got_up) ?_
  exact k
set_option maxHeartbeats 1000000 in
theorem ok_Amounts___getitem__ {P : Program} {w : World} {K : PySem.W.Frag} {mg : Str → Option Value} {base : Heap} {c : Ad} {f : Addr} {fd : FuncData} (F : Fun K "__getitem__" "Amounts.__getitem__" s_Amounts___getitem__ f fd) (T : Txt K mg c)  :
    FnOk P w K mg base (L2N.CX P w) 1 f fd ["self", "at"] (sp_Amounts___getitem__ c) := by
  refine GG.Fun.okN F sc_Amounts___getitem__ (fun vs H Q E h => h.1) (fun cdv ar ou sh H vs Q E hr h => ?_)
  obtain ⟨_, a, dx, u, xs, i, rfl, ha, hu, hi, k⟩ := h
  have hO := T.o_Amounts
  have hcl := T.o_Amounts.cl
  have hn1 := T.na_Amounts_numbers
  have tk := L2N.takes_of (X := cxOf (L2N.CX P w) P w K mg base ["self", "at"] "Amounts.__getitem__" (defScope s_Amounts___getitem__) f cdv ar ou sh H E) rfl rfl rfl rfl
  refine ⟨_, (pss_one (ps_ret (pe_ix (u_ix K) (pe_fldK K (pe_fld (pv 0) rfl)) (pv 1) (fun _ _ => rfl)))), ?_⟩
  try dsimp only [L2H.cxH, cxOf, Cx.suite, Cx.tr, List.map_cons, List.map_nil]
  refine run_start (σ := [some (.ref a), some (.int (i : Int))]) rfl ?_
  clear tk
  reads_via
  refine v_ixT (by got_up) (by omega) (int_get hi) ?_
  exact k
set_option maxHeartbeats 1000000 in
theorem ok_Amounts___len__ {P : Program} {w : World} {K : PySem.W.Frag} {mg : Str → Option Value} {base : Heap} {c : Ad} {f : Addr} {fd : FuncData} (F : Fun K "__len__" "Amounts.__len__" s_Amounts___len__ f fd) (T : Txt K mg c)  :
    FnOk P w K mg base (L2N.CX P w) 1 f fd ["self"] (sp_Amounts___len__ c) := by
  refine GG.Fun.okN F sc_Amounts___len__ (fun vs H Q E h => h.1) (fun cdv ar ou sh H vs Q E hr h => ?_)
  obtain ⟨_, a, dx, u, xs, rfl, ha, hu, l3, k⟩ := h
  have hO := T.o_Amounts
  have hcl := T.o_Amounts.cl
  have hn1 := T.na_Amounts_numbers
  have tk := L2N.takes_of (X := cxOf (L2N.CX P w) P w K mg base ["self"] "Amounts.__len__" (defScope s_Amounts___len__) f cdv ar ou sh H E) rfl rfl rfl rfl
  refine ⟨_, (pss_one (ps_ret (pe_callB (c_len K) (by rfl) T.b_len (by decide +kernel) (pa_cons (pe_fldK K (pe_fld (pv 0) rfl)) pa_nil)))), ?_⟩
  try dsimp only [L2H.cxH, cxOf, Cx.suite, Cx.tr, List.map_cons, List.map_nil]
  refine run_start (σ := [some (.ref a)]) rfl ?_
  clear tk
  reads_via
  rw [List.length_map]
  exact k
set_option maxHeartbeats 1000000 in
theorem ok_Amounts___iter__ {P : Program} {w : World} {K : PySem.W.Frag} {mg : Str → Option Value} {base : Heap} {c : Ad} {f : Addr} {fd : FuncData} (F : Fun K "__iter__" "Amounts.__iter__" s_Amounts___iter__ f fd) (T : Txt K mg c)  :
    FnOk P w K mg base (L2N.CX P w) 1 f fd ["self"] (sp_Amounts___iter__ c) := by
  refine GG.Fun.okN F sc_Amounts___iter__ (fun vs H Q E h => h.1) (fun cdv ar ou sh H vs Q E hr h => ?_)
  obtain ⟨_, a, dx, u, xs, rfl, ha, hu, l3, k⟩ := h
  have hO := T.o_Amounts
  have hcl := T.o_Amounts.cl
  have hn1 := T.na_Amounts_numbers
  have tk := L2N.takes_of (X := cxOf (L2N.CX P w) P w K mg base ["self"] "Amounts.__iter__" (defScope s_Amounts___iter__) f cdv ar ou sh H E) rfl rfl rfl rfl
  refine ⟨_, (pss_one (ps_ret (pe_callB (c_iter K) (by rfl) T.b_iter (by decide +kernel) (pa_cons (pe_fldK K (pe_fld (pv 0) rfl)) pa_nil)))), ?_⟩
  try dsimp only [L2H.cxH, cxOf, Cx.suite, Cx.tr, List.map_cons, List.map_nil]
  refine run_start (σ := [some (.ref a)]) rfl ?_
  clear tk
  reads_via
  refine v_iterT (by got_up) fun it H1 nit e1 hit => ?_
  exact k it H1 nit e1 hit
set_option maxHeartbeats 1000000 in
theorem ok__law_whole {P : Program} {w : World} {K : PySem.W.Frag} {mg : Str → Option Value} {base : Heap} {c : Ad} {f : Addr} {fd : FuncData} (F : Fun K "_law_whole" "_law_whole" s__law_whole f fd) (T : Txt K mg c)  :
    FnOk P w K mg base (L2N.CX P w) 1 f fd ["_law_value"] (sp__law_whole c) := by
  refine GG.Fun.okN F sc__law_whole (fun vs H Q E h => h.1) (fun cdv ar ou sh H vs Q E hr h => ?_)
  obtain ⟨_, i, rfl, k⟩ := h
  have tk := L2N.takes_of (X := cxOf (L2N.CX P w) P w K mg base ["_law_value"] "_law_whole" (defScope s__law_whole) f cdv ar ou sh H E) rfl rfl rfl rfl
  refine ⟨_, (pss_one (ps_ret (pe_and (pe_callB (c_isi K) (by rfl) T.b_isinstance (by decide +kernel) (pa_cons (pv 0) (pa_cons (pe_bltn (v := .ty "int") rfl T.b_int (by decide +kernel) rfl) pa_nil))) (pe_one (pe_not (pe_callB (c_isi K) (by rfl) T.b_isinstance (by decide +kernel) (pa_cons (pv 0) (pa_cons (pe_bltn (v := .ty "bool") rfl T.b_bool (by decide +kernel) rfl) pa_nil)))))))), ?_⟩
  try dsimp only [L2H.cxH, cxOf, Cx.suite, Cx.tr, List.map_cons, List.map_nil]
  refine run_start (σ := [some (.int i)]) rfl ?_
  clear tk
  reads_via
  exact k
set_option maxHeartbeats 1000000 in
theorem ok__law_within {P : Program} {w : World} {K : PySem.W.Frag} {mg : Str → Option Value} {base : Heap} {c : Ad} {f : Addr} {fd : FuncData} (F : Fun K "_law_within" "_law_within" s__law_within f fd) (T : Txt K mg c)  :
    FnOk P w K mg base (L2N.CX P w) 1 f fd ["_law_inner", "_law_outer"] (sp__law_within c) := by
  refine GG.Fun.okN F sc__law_within (fun vs H Q E h => h.1) (fun cdv ar ou sh H vs Q E hr h => ?_)
  obtain ⟨_, p, q, ms, ns, rfl, hp, hq, hl, l3, k⟩ := h
  have tk := L2N.takes_of (X := cxOf (L2N.CX P w) P w K mg base ["_law_inner", "_law_outer", "_law_k"] "_law_within" (defScope s__law_within) f cdv ar ou sh H E) rfl rfl rfl rfl
  refine ⟨_, (pss_cons (ps_for (passes_of rfl) rfl (pi_range1 (by rfl) T.b_range (pa_cons (pe_callB (c_len K) (by rfl) T.b_len (by decide +kernel) (pa_cons (pv 0) pa_nil)) pa_nil)) (pg_name (i := 2) sc__law_within.nd rfl (Or.inl rfl))
      (pss_one (ps_if (pt_cmpR u_gt (pe_ix (u_ix K) (pv 0) (pv 2) (fun _ _ => rfl)) (pe_ix (u_ix K) (pv 1) (pv 2) (fun _ _ => rfl)) (nomark _))
      (pss_one (ps_ret pe_bl))
      pss_nil)))
      (pss_one (ps_ret pe_bl))), ?_⟩
  try dsimp only [L2H.cxH, cxOf, Cx.suite, Cx.tr, List.map_cons, List.map_nil]
  refine run_start (σ := [some (.ref p), some (.ref q), none]) rfl ?_
  clear tk
  reads_via
  rw [List.length_map]
  refine r_rng1 (by omega) (by omega) ?_
  refine f_range0 (fun i σ H' => ∃ v2, σ = [some (.ref p), some (.ref q), v2] ∧ H' = H ∧ i ≤ ms.length ∧ ∀ j, j < i → ms.getD j 0 ≤ ns.getD j 0) ⟨none, rfl, rfl, by omega, fun j hj => absurd hj (by omega)⟩ ?_ ?_
  · rintro i σ H' hi ⟨v2, rfl, rfl, _, hall⟩
    rw [Int.toNat_natCast] at hi
    reads_via
    refine v_ixLn (by got_up) (int_get hi) ?_
    reads_via
    refine v_ixLn (by got_up) (int_get (by omega)) ?_
    reads_via
    refine br_d (fun c1 => ?_) (fun c1 => ?_)
    · reads_via
      rw [show within ms ns = false from ?_] at k
      · exact k
      · rw [← Bool.not_eq_true, within_iff hl]
        intro h
        have := h i hi
        omega
    · reads_via
      refine ⟨_, rfl, rfl, hi, fun j hj => ?_⟩
      by_cases hji : j < i
      · exact hall j hji
      · rw [show j = i by omega]
        omega
  · rintro σ H' ⟨v2, rfl, rfl, _, hall⟩
    rw [Int.toNat_natCast] at hall
    reads_via
    rw [show within ms ns = true from ?_] at k
    · exact k
    · rw [within_iff hl]
      exact hall
set_option maxHeartbeats 1000000 in
theorem ok_Amounts___contains__ {P : Program} {w : World} {K : PySem.W.Frag} {mg : Str → Option Value} {base : Heap} {c : Ad} {f : Addr} {fd : FuncData} (F : Fun K "__contains__" "Amounts.__contains__" s_Amounts___contains__ f fd) (T : Txt K mg c) (F_paired : Fn P w K mg base "paired" 1 ["left", "right"] [] (sp_paired c)) :
    FnOk P w K mg base (L2N.CX P w) 2 f fd ["self", "row"] (sp_Amounts___contains__ c) := by
  refine GG.Fun.okN F sc_Amounts___contains__ (fun vs H Q E h => h.1) (fun cdv ar ou sh H vs Q E hr h => ?_)
  obtain ⟨_, a, dx, u, b, dy, v, xs, ys, rfl, ha, hu, hb, hv, l1, l2, l3, kQ, kE⟩ := h
  have hO := T.o_Amounts
  have hcl := T.o_Amounts.cl
  have hn1 := T.na_Amounts_numbers
  have tk := L2N.takes_of (X := cxOf (L2N.CX P w) P w K mg base ["self", "row", "one", "two"] "Amounts.__contains__" (defScope s_Amounts___contains__) f cdv ar ou sh H E) rfl rfl rfl rfl
  refine ⟨_, (pss_one (ps_ret (pe_callB (c_all K rfl) (by rfl) T.b_all (by decide +kernel) (pa_cons (pe_lcV [2, 3] (pe_lc (own := [("one", 2), ("two", 3)]) (by rfl) sc_Amounts___contains__.nd (pi_listK K (pi_list (pe_fn F_paired (hr.mono (by decide)) (ps_of tk) (pa_cons (pv 0) (pa_cons (pv 1) pa_nil))))) (blkOk_by (own := [("one", 2), ("two", 3)]) (N := ["self", "row", "one", "two"]) (sc := defScope s_Amounts___contains__) (by decide +kernel)) (fun _ _ _ _ _ => (pg_tupK K (n := 2) (pg_tup (n := 2) (by rfl) (pgs_cons (pg_name (i := 2) sc_Amounts___contains__.nd rfl (Or.inl rfl)) (pgs_cons (pg_name (i := 3) sc_Amounts___contains__.nd rfl (Or.inl rfl)) pgs_nil))))) (fun _ _ _ _ _ => pts_nil) (fun _ _ _ _ _ => (pe_cmpR u_le (pv 3) (pv 2) (nomark _))))) pa_nil)))), ?_⟩
  try dsimp only [L2H.cxH, cxOf, Cx.suite, Cx.tr, List.map_cons, List.map_nil]
  refine run_start (σ := [some (.ref a), some (.ref b), none, none]) rfl ?_
  clear tk
  reads_via
  refine ⟨rfl, a, dx, u, b, dy, v, xs, ys, rfl, ha, hu, hb, hv, l1, l2, l3, fun hl q ts H1 nq e1 hq htl hts => ?_, fun hl d H1 e1 hd => kE hl d H1 e1 hd⟩
  reads_via
  refine lcPL hq (by simp; omega) (fun i => .bl ((fun o i => decide (i ≤ o)) (xs.getD i 0) (ys.getD i 0))) (fun i x H2 k hx e2 hk => ?_) fun D H2 nD e2 h2 => ?_
  · rw [List.getElem?_map] at hx
    obtain ⟨t, ht, rfl⟩ : ∃ t, ts[i]? = some t ∧ x = .ref t := by
      cases h : ts[i]? with
      | none => rw [h] at hx; cases hx
      | some t => rw [h] at hx; exact ⟨t, rfl, (Option.some.inj hx).symm⟩
    have hi := (List.getElem?_eq_some_iff.mp ht).1
    have h2 := e2.look (hts i t (by omega) ht)
    reads_via
    exact hk _ Ext.rfl
  rw [List.length_map, htl, rng_zip (fun o i => decide (i ≤ o)) V.bl hl] at h2
  reads_via
  refine v_all (by got_up) ?_
  exact kQ hl H2 (e1.trans e2)
set_option maxHeartbeats 1000000 in
theorem ok_Amounts___floordiv__ {P : Program} {w : World} {K : PySem.W.Frag} {mg : Str → Option Value} {base : Heap} {c : Ad} {f : Addr} {fd : FuncData} (F : Fun K "__floordiv__" "Amounts.__floordiv__" s_Amounts___floordiv__ f fd) (T : Txt K mg c) (F_paired : Fn P w K mg base "paired" 1 ["left", "right"] [] (sp_paired c)) :
    FnOk P w K mg base (L2N.CX P w) 2 f fd ["self", "other"] (sp_Amounts___floordiv__ c) := by
  refine GG.Fun.okN F sc_Amounts___floordiv__ (fun vs H Q E h => h.1) (fun cdv ar ou sh H vs Q E hr h => ?_)
  obtain ⟨_, a, dx, u, b, dy, v, xs, ys, rfl, ha, hu, hb, hv, l1, l2, l3, hne, kE⟩ := h
  have hO := T.o_Amounts
  have hcl := T.o_Amounts.cl
  have hn1 := T.na_Amounts_numbers
  have tk := L2N.takes_of (X := cxOf (L2N.CX P w) P w K mg base ["self", "other", "counts", "one", "two"] "Amounts.__floordiv__" (defScope s_Amounts___floordiv__) f cdv ar ou sh H E) rfl rfl rfl rfl
  refine ⟨_, (pss_cons (ps_lcV [3, 4] (ps_setLc (i := 2) (own := [("one", 3), ("two", 4)])  (by rfl) sc_Amounts___floordiv__.nd rfl rfl (sw_true rfl rfl rfl (by decide +kernel)) (pi_listK K (pi_list (pe_fn F_paired (hr.mono (by decide)) (ps_of tk) (pa_cons (pv 0) (pa_cons (pv 1) pa_nil))))) (blkOk_by (own := [("one", 3), ("two", 4)]) (N := ["self", "other", "counts", "one", "two"]) (sc := defScope s_Amounts___floordiv__) (by decide +kernel)) (fun _ _ _ _ _ => (pg_tupK K (n := 2) (pg_tup (n := 2) (by rfl) (pgs_cons (pg_name (i := 3) sc_Amounts___floordiv__.nd rfl (Or.inl rfl)) (pgs_cons (pg_name (i := 4) sc_Amounts___floordiv__.nd rfl (Or.inl rfl)) pgs_nil))))) (fun _ _ _ _ _ => (pts_one (pt_cmpR u_gt (pv 4) pe_int (nomark _)))) (fun _ _ _ _ _ => (pe_op u_fdiv (pv 3) (pv 4)))))
      (pss_cons (ps_if (pt_not (pt_tru K (pv 2) (by intro _; rfl)))
      (pss_one (ps_raiseErr T.e_BadAmounts hr tk (pa_cons (pe_fldK K (pe_fld (pv 1) rfl)) pa_nil)))
      pss_nil)
      (pss_one (ps_ret (pe_callB (c_min1 K rfl) (by rfl) T.b_min (by decide +kernel) (pa_cons (pv 2) pa_nil)))))), ?_⟩
  try dsimp only [L2H.cxH, cxOf, Cx.suite, Cx.tr, List.map_cons, List.map_nil]
  refine run_start (σ := [some (.ref a), some (.ref b), none, none, none]) rfl ?_
  clear tk
  reads_via
  refine ⟨rfl, a, dx, u, b, dy, v, xs, ys, rfl, ha, hu, hb, hv, l1, l2, l3, fun hl => absurd hl hne, fun hl d H1 e1 hd => kE d H1 e1 hd⟩
set_option maxHeartbeats 1000000 in
theorem ok__law_number {P : Program} {w : World} {K : PySem.W.Frag} {mg : Str → Option Value} {base : Heap} {c : Ad} {f : Addr} {fd : FuncData} (F : Fun K "_law_number" "_law_number" s__law_number f fd) (T : Txt K mg c) (F__law_draw : Fn P w K mg base "_law_draw" 1 ["_law_pool_here", "_law_many"] [] (sp__law_draw c)) :
    FnOk P w K mg base (L2N.CX P w) 2 f fd ["_law_pool_here", "_law_groups"] (sp__law_number c) := by
  refine GG.Fun.okN F sc__law_number (fun vs H Q E h => h.1) (fun cdv ar ou sh H vs Q E hr h => ?_)
  obtain ⟨_, p, g, rfl, hp, g1, g2, k⟩ := h
  have hg : (1000 : Int) ≤ 1000 ^ g := pow_ge g1
  have tk := L2N.takes_of (X := cxOf (L2N.CX P w) P w K mg base ["_law_pool_here", "_law_groups", "_law_kind", "_law_count", "_law_number_here", "_law_k", "_law_part"] "_law_number" (defScope s__law_number) f cdv ar ou sh H E) rfl rfl rfl rfl
  refine ⟨_, (pss_cons (ps_asg (pe_fn F__law_draw (hr.mono (by decide)) (ps_of tk) (pa_cons (pv 0) (pa_cons pe_int pa_nil))) (pg_name (i := 2) sc__law_number.nd rfl (Or.inl rfl)))
      (pss_cons (ps_if (pt_cmpR (u_eq K hr.units) (pv 2) pe_int (nomark _))
      (pss_one (ps_ret (pe_fn F__law_draw (hr.mono (by decide)) (ps_of tk) (pa_cons (pv 0) (pa_cons pe_int pa_nil)))))
      pss_nil)
      (pss_cons (ps_asg (pv 1) (pg_name (i := 3) sc__law_number.nd rfl (Or.inl rfl)))
      (pss_cons (ps_if (pt_cmpR u_gt (pv 2) pe_int (nomark _))
      (pss_one (ps_asg (pe_op (u_add K) pe_int (pe_fn F__law_draw (hr.mono (by decide)) (ps_of tk) (pa_cons (pv 0) (pa_cons (pv 1) pa_nil)))) (pg_name (i := 3) sc__law_number.nd rfl (Or.inl rfl))))
      pss_nil)
      (pss_cons (ps_asg pe_int (pg_name (i := 4) sc__law_number.nd rfl (Or.inl rfl)))
      (pss_cons (ps_for (passes_of rfl) rfl (pi_range1 (by rfl) T.b_range (pa_cons (pv 3) pa_nil)) (pg_name (i := 5) sc__law_number.nd rfl (Or.inl rfl))
      (pss_cons (ps_asg pe_int (pg_name (i := 6) sc__law_number.nd rfl (Or.inl rfl)))
      (pss_cons (ps_if (pt_cmpR u_gt (pv 2) pe_int (nomark _))
      (pss_one (ps_asg (pe_fn F__law_draw (hr.mono (by decide)) (ps_of tk) (pa_cons (pv 0) (pa_cons pe_int pa_nil))) (pg_name (i := 6) sc__law_number.nd rfl (Or.inl rfl))))
      pss_nil)
      (pss_one (ps_asg (pe_op (u_add K) (pe_op u_mul (pv 4) pe_int) (pv 6)) (pg_name (i := 4) sc__law_number.nd rfl (Or.inl rfl)))))))
      (pss_one (ps_ret (pv 4))))))))), ?_⟩
  try dsimp only [L2H.cxH, cxOf, Cx.suite, Cx.tr, List.map_cons, List.map_nil]
  refine run_start (σ := [some (.ref p), some (.int g), none, none, none, none, none]) rfl ?_
  clear tk
  reads_via
  refine call_draw hp (by decide) (by decide) fun r H1 r0 r1 e1 p1 => ?_
  reads_via
  refine br_d (fun c1 => ?_) (fun c1 => ?_)
  · reads_via
    refine call_draw p1 (by decide) (by decide) fun r2 H2 h3 h4 e2 p2 => ?_
    exact k _ _ h3 (by omega) (e1.trans e2) p2
  reads_via
  refine br_d (fun c2 => ?_) (fun c2 => ?_)
  · reads_via
    refine call_draw p1 (by omega) (by omega) fun r2 H2 h3 h4 e2 p2 => ?_
    obtain ⟨cnt, hc, hcl⟩ : ∃ n : Nat, 1 + r2 = (n : Int) ∧ n ≤ g := ⟨(1 + r2).toNat, by omega, by omega⟩
    reads_via
    rw [hc]
    refine r_rng1 (by omega) (by omega) ?_
    refine f_range0 (fun i σ H' => ∃ v4 v5 v6 N, σ = [some (.ref p), some (.int (g : Int)), some (.int r), some (.int (cnt : Int)), some (.int N), v5, v6] ∧ v4 = (0 : Int) ∧ 0 ≤ N ∧ N < 1000 ^ i ∧ But p H H' ∧ Pool H' p) ⟨0, none, none, 0, rfl, rfl, by decide, by decide, e1.trans e2, p2⟩ ?_ ?_
    · rintro i σ H3 hi ⟨v4, v5, v6, N, rfl, _, n0, n1, e3, p3⟩
      reads_via
      refine br_d (fun _ => ?_) (fun z => absurd c2 z)
      reads_via
      refine call_draw p3 (by decide) (by decide) fun r3 H4 h5 h6 e4 p4 => ?_
      reads_via
      exact ⟨0, _, _, _, rfl, rfl, by omega, by rw [Int.pow_succ]; omega, e3.trans e4, p4⟩
    · rintro σ H3 ⟨v4, v5, v6, N, rfl, _, n0, n1, e3, p3⟩
      reads_via
      exact k _ _ n0 (Int.lt_of_lt_of_le n1 (pow_le (by omega))) e3 p3
  · reads_via
    refine r_rng1 (by omega) (by omega) ?_
    refine f_range0 (fun i σ H' => ∃ v5 v6 N, σ = [some (.ref p), some (.int (g : Int)), some (.int r), some (.int (g : Int)), some (.int N), v5, v6] ∧ 0 ≤ N ∧ N < 1000 ^ i ∧ But p H H' ∧ Pool H' p) ⟨none, none, 0, rfl, by decide, by decide, e1, p1⟩ ?_ ?_
    · rintro i σ H3 hi ⟨v5, v6, N, rfl, n0, n1, e3, p3⟩
      reads_via
      refine br_d (fun z => absurd z c2) (fun _ => ?_)
      reads_via
      exact ⟨_, _, _, rfl, by omega, by rw [Int.pow_succ]; omega, e3, p3⟩
    · rintro σ H3 ⟨v5, v6, N, rfl, n0, n1, e3, p3⟩
      reads_via
      exact k _ _ n0 (Int.lt_of_lt_of_le n1 (pow_le (by omega))) e3 p3
set_option maxHeartbeats 1000000 in
theorem ok_Amounts___sub__ {P : Program} {w : World} {K : PySem.W.Frag} {mg : Str → Option Value} {base : Heap} {c : Ad} {f : Addr} {fd : FuncData} (F : Fun K "__sub__" "Amounts.__sub__" s_Amounts___sub__ f fd) (T : Txt K mg c) (F_paired : Fn P w K mg base "paired" 1 ["left", "right"] [] (sp_paired c)) (MR_Amounts : McR P w K mg base "Amounts" c.Amounts 1 (sp_Amounts___init__ c)) :
    FnOk P w K mg base (L2N.CX P w) 3 f fd ["self", "other"] (sp_Amounts___sub__ c) := by
  refine GG.Fun.okN F sc_Amounts___sub__ (fun vs H Q E h => h.1) (fun cdv ar ou sh H vs Q E hr h => ?_)
  obtain ⟨_, a, dx, u, b, dy, v, xs, ys, rfl, ha, hu, hb, hv, l1, l2, l3, kQ, kE⟩ := h
  have hO := T.o_Amounts
  have hcl := T.o_Amounts.cl
  have hn1 := T.na_Amounts_numbers
  have tk := L2N.takes_of (X := cxOf (L2N.CX P w) P w K mg base ["self", "other", "numbers", "one", "two"] "Amounts.__sub__" (defScope s_Amounts___sub__) f cdv ar ou sh H E) rfl rfl rfl rfl
  refine ⟨_, (pss_cons (ps_lcV [3, 4] (ps_setLc (i := 2) (own := [("one", 3), ("two", 4)])  (by rfl) sc_Amounts___sub__.nd rfl rfl (sw_true rfl rfl rfl (by decide +kernel)) (pi_listK K (pi_list (pe_fn F_paired (hr.mono (by decide)) (ps_of tk) (pa_cons (pv 0) (pa_cons (pv 1) pa_nil))))) (blkOk_by (own := [("one", 3), ("two", 4)]) (N := ["self", "other", "numbers", "one", "two"]) (sc := defScope s_Amounts___sub__) (by decide +kernel)) (fun _ _ _ _ _ => (pg_tupK K (n := 2) (pg_tup (n := 2) (by rfl) (pgs_cons (pg_name (i := 3) sc_Amounts___sub__.nd rfl (Or.inl rfl)) (pgs_cons (pg_name (i := 4) sc_Amounts___sub__.nd rfl (Or.inl rfl)) pgs_nil))))) (fun _ _ _ _ _ => pts_nil) (fun _ _ _ _ _ => (pe_op u_sub (pv 3) (pv 4)))))
      (pss_one (ps_ret (pe_mkRSK K (pe_mkRS MR_Amounts (hr.mono (by decide)) (ps_of tk) (pv 2)))))), ?_⟩
  try dsimp only [L2H.cxH, cxOf, Cx.suite, Cx.tr, List.map_cons, List.map_nil]
  refine run_start (σ := [some (.ref a), some (.ref b), none, none, none]) rfl ?_
  clear tk
  reads_via
  refine ⟨rfl, a, dx, u, b, dy, v, xs, ys, rfl, ha, hu, hb, hv, l1, l2, l3, fun hl q ts H1 nq e1 hq htl hts => ?_, fun hl d H1 e1 hd => kE hl d H1 e1 hd⟩
  reads_via
  refine lcPL hq (by simp; omega) (fun i => .int ((fun x y => x - y) (xs.getD i 0) (ys.getD i 0))) (fun i x H2 k hx e2 hk => ?_) fun D H2 nD e2 h2 => ?_
  · rw [List.getElem?_map] at hx
    obtain ⟨t, ht, rfl⟩ : ∃ t, ts[i]? = some t ∧ x = .ref t := by
      cases h : ts[i]? with
      | none => rw [h] at hx; cases hx
      | some t => rw [h] at hx; exact ⟨t, rfl, (Option.some.inj hx).symm⟩
    have hi := (List.getElem?_eq_some_iff.mp ht).1
    have h2 := e2.look (hts i t (by omega) ht)
    reads_via
    exact hk _ Ext.rfl
  rw [List.length_map, htl, rng_zip (fun x y => x - y) V.int hl] at h2
  reads_via
  refine v_starL (by got_up) (mk_am (by simp; omega) (by simp; omega) fun x dx' w H3 nx e3 h3 hw => ?_)
  exact kQ hl x dx' w H3 (e1.free (e2.free nx)) ((e1.trans e2).trans e3) h3 hw
set_option maxHeartbeats 1000000 in
theorem ok_Amounts___add__ {P : Program} {w : World} {K : PySem.W.Frag} {mg : Str → Option Value} {base : Heap} {c : Ad} {f : Addr} {fd : FuncData} (F : Fun K "__add__" "Amounts.__add__" s_Amounts___add__ f fd) (T : Txt K mg c) (F_paired : Fn P w K mg base "paired" 1 ["left", "right"] [] (sp_paired c)) (MR_Amounts : McR P w K mg base "Amounts" c.Amounts 1 (sp_Amounts___init__ c)) :
    FnOk P w K mg base (L2N.CX P w) 3 f fd ["self", "other"] (sp_Amounts___add__ c) := by
  refine GG.Fun.okN F sc_Amounts___add__ (fun vs H Q E h => h.1) (fun cdv ar ou sh H vs Q E hr h => ?_)
  obtain ⟨_, a, dx, u, b, dy, v, xs, ys, rfl, ha, hu, hb, hv, l1, l2, l3, kQ, kE⟩ := h
  have hO := T.o_Amounts
  have hcl := T.o_Amounts.cl
  have hn1 := T.na_Amounts_numbers
  have tk := L2N.takes_of (X := cxOf (L2N.CX P w) P w K mg base ["self", "other", "numbers", "one", "two"] "Amounts.__add__" (defScope s_Amounts___add__) f cdv ar ou sh H E) rfl rfl rfl rfl
  refine ⟨_, (pss_cons (ps_lcV [3, 4] (ps_setLc (i := 2) (own := [("one", 3), ("two", 4)])  (by rfl) sc_Amounts___add__.nd rfl rfl (sw_true rfl rfl rfl (by decide +kernel)) (pi_listK K (pi_list (pe_fn F_paired (hr.mono (by decide)) (ps_of tk) (pa_cons (pv 0) (pa_cons (pv 1) pa_nil))))) (blkOk_by (own := [("one", 3), ("two", 4)]) (N := ["self", "other", "numbers", "one", "two"]) (sc := defScope s_Amounts___add__) (by decide +kernel)) (fun _ _ _ _ _ => (pg_tupK K (n := 2) (pg_tup (n := 2) (by rfl) (pgs_cons (pg_name (i := 3) sc_Amounts___add__.nd rfl (Or.inl rfl)) (pgs_cons (pg_name (i := 4) sc_Amounts___add__.nd rfl (Or.inl rfl)) pgs_nil))))) (fun _ _ _ _ _ => pts_nil) (fun _ _ _ _ _ => (pe_op (u_add K) (pv 3) (pv 4)))))
      (pss_one (ps_ret (pe_mkRSK K (pe_mkRS MR_Amounts (hr.mono (by decide)) (ps_of tk) (pv 2)))))), ?_⟩
  try dsimp only [L2H.cxH, cxOf, Cx.suite, Cx.tr, List.map_cons, List.map_nil]
  refine run_start (σ := [some (.ref a), some (.ref b), none, none, none]) rfl ?_
  clear tk
  reads_via
  refine ⟨rfl, a, dx, u, b, dy, v, xs, ys, rfl, ha, hu, hb, hv, l1, l2, l3, fun hl q ts H1 nq e1 hq htl hts => ?_, fun hl d H1 e1 hd => kE hl d H1 e1 hd⟩
  reads_via
  refine lcPL hq (by simp; omega) (fun i => .int ((fun x y => x + y) (xs.getD i 0) (ys.getD i 0))) (fun i x H2 k hx e2 hk => ?_) fun D H2 nD e2 h2 => ?_
  · rw [List.getElem?_map] at hx
    obtain ⟨t, ht, rfl⟩ : ∃ t, ts[i]? = some t ∧ x = .ref t := by
      cases h : ts[i]? with
      | none => rw [h] at hx; cases hx
      | some t => rw [h] at hx; exact ⟨t, rfl, (Option.some.inj hx).symm⟩
    have hi := (List.getElem?_eq_some_iff.mp ht).1
    have h2 := e2.look (hts i t (by omega) ht)
    reads_via
    exact hk _ Ext.rfl
  rw [List.length_map, htl, rng_zip (fun x y => x + y) V.int hl] at h2
  reads_via
  refine v_starL (by got_up) (mk_am (by simp; omega) (by simp; omega) fun x dx' w H3 nx e3 h3 hw => ?_)
  exact kQ hl x dx' w H3 (e1.free (e2.free nx)) ((e1.trans e2).trans e3) h3 hw
set_option maxHeartbeats 1000000 in
theorem ok_Amounts___and__ {P : Program} {w : World} {K : PySem.W.Frag} {mg : Str → Option Value} {base : Heap} {c : Ad} {f : Addr} {fd : FuncData} (F : Fun K "__and__" "Amounts.__and__" s_Amounts___and__ f fd) (T : Txt K mg c) (F_paired : Fn P w K mg base "paired" 1 ["left", "right"] [] (sp_paired c)) (MR_Amounts : McR P w K mg base "Amounts" c.Amounts 1 (sp_Amounts___init__ c)) :
    FnOk P w K mg base (L2N.CX P w) 3 f fd ["self", "other"] (sp_Amounts___and__ c) := by
  refine GG.Fun.okN F sc_Amounts___and__ (fun vs H Q E h => h.1) (fun cdv ar ou sh H vs Q E hr h => ?_)
  obtain ⟨_, a, dx, u, b, dy, v, xs, ys, rfl, ha, hu, hb, hv, l1, l2, l3, kQ, kE⟩ := h
  have hO := T.o_Amounts
  have hcl := T.o_Amounts.cl
  have hn1 := T.na_Amounts_numbers
  have tk := L2N.takes_of (X := cxOf (L2N.CX P w) P w K mg base ["self", "other", "numbers", "one", "two"] "Amounts.__and__" (defScope s_Amounts___and__) f cdv ar ou sh H E) rfl rfl rfl rfl
  refine ⟨_, (pss_cons (ps_lcV [3, 4] (ps_setLc (i := 2) (own := [("one", 3), ("two", 4)])  (by rfl) sc_Amounts___and__.nd rfl rfl (sw_true rfl rfl rfl (by decide +kernel)) (pi_listK K (pi_list (pe_fn F_paired (hr.mono (by decide)) (ps_of tk) (pa_cons (pv 0) (pa_cons (pv 1) pa_nil))))) (blkOk_by (own := [("one", 3), ("two", 4)]) (N := ["self", "other", "numbers", "one", "two"]) (sc := defScope s_Amounts___and__) (by decide +kernel)) (fun _ _ _ _ _ => (pg_tupK K (n := 2) (pg_tup (n := 2) (by rfl) (pgs_cons (pg_name (i := 3) sc_Amounts___and__.nd rfl (Or.inl rfl)) (pgs_cons (pg_name (i := 4) sc_Amounts___and__.nd rfl (Or.inl rfl)) pgs_nil))))) (fun _ _ _ _ _ => pts_nil) (fun _ _ _ _ _ => (pe_callB (c_min2 rfl) (by rfl) T.b_min (by decide +kernel) (pa_cons (pv 3) (pa_cons (pv 4) pa_nil))))))
      (pss_one (ps_ret (pe_mkRSK K (pe_mkRS MR_Amounts (hr.mono (by decide)) (ps_of tk) (pv 2)))))), ?_⟩
  try dsimp only [L2H.cxH, cxOf, Cx.suite, Cx.tr, List.map_cons, List.map_nil]
  refine run_start (σ := [some (.ref a), some (.ref b), none, none, none]) rfl ?_
  clear tk
  reads_via
  refine ⟨rfl, a, dx, u, b, dy, v, xs, ys, rfl, ha, hu, hb, hv, l1, l2, l3, fun hl q ts H1 nq e1 hq htl hts => ?_, fun hl d H1 e1 hd => kE hl d H1 e1 hd⟩
  reads_via
  refine lcPL hq (by simp; omega) (fun i => .int ((fun x y => min x y) (xs.getD i 0) (ys.getD i 0))) (fun i x H2 k hx e2 hk => ?_) fun D H2 nD e2 h2 => ?_
  · rw [List.getElem?_map] at hx
    obtain ⟨t, ht, rfl⟩ : ∃ t, ts[i]? = some t ∧ x = .ref t := by
      cases h : ts[i]? with
      | none => rw [h] at hx; cases hx
      | some t => rw [h] at hx; exact ⟨t, rfl, (Option.some.inj hx).symm⟩
    have hi := (List.getElem?_eq_some_iff.mp ht).1
    have h2 := e2.look (hts i t (by omega) ht)
    reads_via
    exact hk _ Ext.rfl
  rw [List.length_map, htl, rng_zip (fun x y => min x y) V.int hl] at h2
  reads_via
  refine v_starL (by got_up) (mk_am (by simp; omega) (by simp; omega) fun x dx' w H3 nx e3 h3 hw => ?_)
  exact kQ hl x dx' w H3 (e1.free (e2.free nx)) ((e1.trans e2).trans e3) h3 hw
set_option maxHeartbeats 1000000 in
theorem ok_Amounts___or__ {P : Program} {w : World} {K : PySem.W.Frag} {mg : Str → Option Value} {base : Heap} {c : Ad} {f : Addr} {fd : FuncData} (F : Fun K "__or__" "Amounts.__or__" s_Amounts___or__ f fd) (T : Txt K mg c) (F_paired : Fn P w K mg base "paired" 1 ["left", "right"] [] (sp_paired c)) (MR_Amounts : McR P w K mg base "Amounts" c.Amounts 1 (sp_Amounts___init__ c)) :
    FnOk P w K mg base (L2N.CX P w) 3 f fd ["self", "other"] (sp_Amounts___or__ c) := by
  refine GG.Fun.okN F sc_Amounts___or__ (fun vs H Q E h => h.1) (fun cdv ar ou sh H vs Q E hr h => ?_)
  obtain ⟨_, a, dx, u, b, dy, v, xs, ys, rfl, ha, hu, hb, hv, l1, l2, l3, kQ, kE⟩ := h
  have hO := T.o_Amounts
  have hcl := T.o_Amounts.cl
  have hn1 := T.na_Amounts_numbers
  have tk := L2N.takes_of (X := cxOf (L2N.CX P w) P w K mg base ["self", "other", "numbers", "one", "two"] "Amounts.__or__" (defScope s_Amounts___or__) f cdv ar ou sh H E) rfl rfl rfl rfl
  refine ⟨_, (pss_cons (ps_lcV [3, 4] (ps_setLc (i := 2) (own := [("one", 3), ("two", 4)])  (by rfl) sc_Amounts___or__.nd rfl rfl (sw_true rfl rfl rfl (by decide +kernel)) (pi_listK K (pi_list (pe_fn F_paired (hr.mono (by decide)) (ps_of tk) (pa_cons (pv 0) (pa_cons (pv 1) pa_nil))))) (blkOk_by (own := [("one", 3), ("two", 4)]) (N := ["self", "other", "numbers", "one", "two"]) (sc := defScope s_Amounts___or__) (by decide +kernel)) (fun _ _ _ _ _ => (pg_tupK K (n := 2) (pg_tup (n := 2) (by rfl) (pgs_cons (pg_name (i := 3) sc_Amounts___or__.nd rfl (Or.inl rfl)) (pgs_cons (pg_name (i := 4) sc_Amounts___or__.nd rfl (Or.inl rfl)) pgs_nil))))) (fun _ _ _ _ _ => pts_nil) (fun _ _ _ _ _ => (pe_callB (c_max2 rfl) (by rfl) T.b_max (by decide +kernel) (pa_cons (pv 3) (pa_cons (pv 4) pa_nil))))))
      (pss_one (ps_ret (pe_mkRSK K (pe_mkRS MR_Amounts (hr.mono (by decide)) (ps_of tk) (pv 2)))))), ?_⟩
  try dsimp only [L2H.cxH, cxOf, Cx.suite, Cx.tr, List.map_cons, List.map_nil]
  refine run_start (σ := [some (.ref a), some (.ref b), none, none, none]) rfl ?_
  clear tk
  reads_via
  refine ⟨rfl, a, dx, u, b, dy, v, xs, ys, rfl, ha, hu, hb, hv, l1, l2, l3, fun hl q ts H1 nq e1 hq htl hts => ?_, fun hl d H1 e1 hd => kE hl d H1 e1 hd⟩
  reads_via
  refine lcPL hq (by simp; omega) (fun i => .int ((fun x y => max x y) (xs.getD i 0) (ys.getD i 0))) (fun i x H2 k hx e2 hk => ?_) fun D H2 nD e2 h2 => ?_
  · rw [List.getElem?_map] at hx
    obtain ⟨t, ht, rfl⟩ : ∃ t, ts[i]? = some t ∧ x = .ref t := by
      cases h : ts[i]? with
      | none => rw [h] at hx; cases hx
      | some t => rw [h] at hx; exact ⟨t, rfl, (Option.some.inj hx).symm⟩
    have hi := (List.getElem?_eq_some_iff.mp ht).1
    have h2 := e2.look (hts i t (by omega) ht)
    reads_via
    exact hk _ Ext.rfl
  rw [List.length_map, htl, rng_zip (fun x y => max x y) V.int hl] at h2
  reads_via
  refine v_starL (by got_up) (mk_am (by simp; omega) (by simp; omega) fun x dx' w H3 nx e3 h3 hw => ?_)
  exact kQ hl x dx' w H3 (e1.free (e2.free nx)) ((e1.trans e2).trans e3) h3 hw
set_option maxHeartbeats 1000000 in
theorem ok_Amounts___mul__ {P : Program} {w : World} {K : PySem.W.Frag} {mg : Str → Option Value} {base : Heap} {c : Ad} {f : Addr} {fd : FuncData} (F : Fun K "__mul__" "Amounts.__mul__" s_Amounts___mul__ f fd) (T : Txt K mg c) (MR_Amounts : McR P w K mg base "Amounts" c.Amounts 1 (sp_Amounts___init__ c)) :
    FnOk P w K mg base (L2N.CX P w) 3 f fd ["self", "other"] (sp_Amounts___mul__ c) := by
  refine GG.Fun.okN F sc_Amounts___mul__ (fun vs H Q E h => h.1) (fun cdv ar ou sh H vs Q E hr h => ?_)
  obtain ⟨_, a, dx, u, xs, n, rfl, ha, hu, l1, l3, hc, k⟩ := h
  have hO := T.o_Amounts
  have hcl := T.o_Amounts.cl
  have hn1 := T.na_Amounts_numbers
  have tk := L2N.takes_of (X := cxOf (L2N.CX P w) P w K mg base ["self", "other", "numbers", "number"] "Amounts.__mul__" (defScope s_Amounts___mul__) f cdv ar ou sh H E) rfl rfl rfl rfl
  refine ⟨_, (pss_cons (ps_lcV [3] (ps_setLc (i := 2) (own := [("number", 3)])  (by rfl) sc_Amounts___mul__.nd rfl rfl (sw_true rfl rfl rfl (by decide +kernel)) (pi_tupK K (pi_tup (pe_fldK K (pe_fld (pv 0) rfl)))) (blkOk_by (own := [("number", 3)]) (N := ["self", "other", "numbers", "number"]) (sc := defScope s_Amounts___mul__) (by decide +kernel)) (fun _ _ _ _ _ => (pg_name (i := 3) sc_Amounts___mul__.nd rfl (Or.inl rfl))) (fun _ _ _ _ _ => pts_nil) (fun _ _ _ _ _ => (pe_op u_mul (pv 1) (pv 3)))))
      (pss_one (ps_ret (pe_mkRSK K (pe_mkRS MR_Amounts (hr.mono (by decide)) (ps_of tk) (pv 2)))))), ?_⟩
  try dsimp only [L2H.cxH, cxOf, Cx.suite, Cx.tr, List.map_cons, List.map_nil]
  refine run_start (σ := [some (.ref a), some (.int n), none, none]) rfl ?_
  clear tk
  reads_via
  refine lcPT (by got_up) (by simp; omega) (fun i => .int ((fun x => n * x) (xs.getD i 0))) (fun i x H2 k hx e2 hk => ?_) fun D H2 nD e2 h2 => ?_
  · obtain ⟨hi, rfl⟩ := int_at hx
    reads_via
    refine v_mul (hc i hi) ?_
    exact hk _ Ext.rfl
  rw [List.length_map, rng_map fun x => n * x] at h2
  reads_via
  refine v_starL (by got_up) (mk_am (by simp; omega) (by simp; omega) fun x dx' w H3 nx e3 h3 hw => ?_)
  exact k x dx' w H3 (e2.free nx) (e2.trans e3) h3 hw
set_option maxHeartbeats 1000000 in
theorem ok__law_signed {P : Program} {w : World} {K : PySem.W.Frag} {mg : Str → Option Value} {base : Heap} {c : Ad} {f : Addr} {fd : FuncData} (F : Fun K "_law_signed" "_law_signed" s__law_signed f fd) (T : Txt K mg c) (F__law_draw : Fn P w K mg base "_law_draw" 1 ["_law_pool_here", "_law_many"] [] (sp__law_draw c)) (F__law_number : Fn P w K mg base "_law_number" 2 ["_law_pool_here", "_law_groups"] [] (sp__law_number c)) :
    FnOk P w K mg base (L2N.CX P w) 3 f fd ["_law_pool_here", "_law_groups"] (sp__law_signed c) := by
  refine GG.Fun.okN F sc__law_signed (fun vs H Q E h => h.1) (fun cdv ar ou sh H vs Q E hr h => ?_)
  obtain ⟨_, p, g, rfl, hp, g1, g2, k⟩ := h
  have tk := L2N.takes_of (X := cxOf (L2N.CX P w) P w K mg base ["_law_pool_here", "_law_groups", "_law_number_here"] "_law_signed" (defScope s__law_signed) f cdv ar ou sh H E) rfl rfl rfl rfl
  refine ⟨_, (pss_cons (ps_asg (pe_fn F__law_number (hr.mono (by decide)) (ps_of tk) (pa_cons (pv 0) (pa_cons (pv 1) pa_nil))) (pg_name (i := 2) sc__law_signed.nd rfl (Or.inl rfl)))
      (pss_one (ps_ret (pe_op u_mul (pv 2) (pe_op u_sub pe_int (pe_op u_mul pe_int (pe_fn F__law_draw (hr.mono (by decide)) (ps_of tk) (pa_cons (pv 0) (pa_cons pe_int pa_nil))))))))), ?_⟩
  try dsimp only [L2H.cxH, cxOf, Cx.suite, Cx.tr, List.map_cons, List.map_nil]
  refine run_start (σ := [some (.ref p), some (.int g), none]) rfl ?_
  clear tk
  reads_via
  refine ⟨rfl, p, g, rfl, hp, g1, g2, fun r H1 r0 r1 e1 p1 => ?_⟩
  reads_via
  refine call_draw p1 (by decide) (by decide) fun r2 H2 h3 h4 e2 p2 => ?_
  reads_via
  have : r2 = 0 ∨ r2 = 1 := by omega
  rcases this with rfl | rfl
  · exact k _ _ (by omega) (by omega) (e1.trans e2) p2
  · exact k _ _ (by omega) (by omega) (e1.trans e2) p2
set_option maxHeartbeats 1000000 in
theorem ok__law_row {P : Program} {w : World} {K : PySem.W.Frag} {mg : Str → Option Value} {base : Heap} {c : Ad} {f : Addr} {fd : FuncData} (F : Fun K "_law_row" "_law_row" s__law_row f fd) (T : Txt K mg c) (MR_Amounts : McR P w K mg base "Amounts" c.Amounts 1 (sp_Amounts___init__ c)) :
    FnOk P w K mg base (L2N.CX P w) 3 f fd ["_law_numbers"] (sp__law_row c) := by
  refine GG.Fun.okN F sc__law_row (fun vs H Q E h => h.1) (fun cdv ar ou sh H vs Q E hr h => ?_)
  obtain ⟨_, q, ns, rfl, hq, l1, l3, k⟩ := h
  have hO := T.o_Amounts
  have hcl := T.o_Amounts.cl
  have hn1 := T.na_Amounts_numbers
  have tk := L2N.takes_of (X := cxOf (L2N.CX P w) P w K mg base ["_law_numbers"] "_law_row" (defScope s__law_row) f cdv ar ou sh H E) rfl rfl rfl rfl
  refine ⟨_, (pss_cons (ps_if (pt_cmpR (u_eq K hr.units) (pe_callB (c_len K) (by rfl) T.b_len (by decide +kernel) (pa_cons (pv 0) pa_nil)) pe_int (nomark _))
      (pss_one (ps_ret (pe_mkR MR_Amounts (hr.mono (by decide)) (ps_of tk) (pa_cons (pe_ix (u_ix K) (pv 0) pe_int (fun _ _ => rfl)) pa_nil))))
      pss_nil)
      (pss_cons (ps_if (pt_cmpR (u_eq K hr.units) (pe_callB (c_len K) (by rfl) T.b_len (by decide +kernel) (pa_cons (pv 0) pa_nil)) pe_int (nomark _))
      (pss_one (ps_ret (pe_mkR MR_Amounts (hr.mono (by decide)) (ps_of tk) (pa_cons (pe_ix (u_ix K) (pv 0) pe_int (fun _ _ => rfl)) (pa_cons (pe_ix (u_ix K) (pv 0) pe_int (fun _ _ => rfl)) pa_nil)))))
      pss_nil)
      (pss_one (ps_ret (pe_mkR MR_Amounts (hr.mono (by decide)) (ps_of tk) (pa_cons (pe_ix (u_ix K) (pv 0) pe_int (fun _ _ => rfl)) (pa_cons (pe_ix (u_ix K) (pv 0) pe_int (fun _ _ => rfl)) (pa_cons (pe_ix (u_ix K) (pv 0) pe_int (fun _ _ => rfl)) pa_nil)))))))), ?_⟩
  try dsimp only [L2H.cxH, cxOf, Cx.suite, Cx.tr, List.map_cons, List.map_nil]
  refine run_start (σ := [some (.ref q)]) rfl ?_
  clear tk
  match ns, l1, l3 with
  | [n1], _, _ =>
    simp only [List.map_cons, List.map_nil] at hq k
    end_str
    exact mk_am (by simp) (by simp) k
  | [n1, n2], _, _ =>
    simp only [List.map_cons, List.map_nil] at hq k
    end_str
    exact mk_am (by simp) (by simp) k
  | [n1, n2, n3], _, _ =>
    simp only [List.map_cons, List.map_nil] at hq k
    end_str
    exact mk_am (by simp) (by simp) k
set_option maxHeartbeats 1000000 in
theorem ok__law_counted {P : Program} {w : World} {K : PySem.W.Frag} {mg : Str → Option Value} {base : Heap} {c : Ad} {f : Addr} {fd : FuncData} (F : Fun K "_law_counted" "_law_counted" s__law_counted f fd) (T : Txt K mg c) (MR_Amounts : McR P w K mg base "Amounts" c.Amounts 1 (sp_Amounts___init__ c)) :
    FnOk P w K mg base (L2N.CX P w) 3 f fd ["_law_numbers", "_law_many"] (sp__law_counted c) := by
  refine GG.Fun.okN F sc__law_counted (fun vs H Q E h => h.1) (fun cdv ar ou sh H vs Q E hr h => ?_)
  obtain ⟨_, q, ns, j, rfl, hq, hl, hw, k⟩ := h
  have hO := T.o_Amounts
  have hcl := T.o_Amounts.cl
  have hn1 := T.na_Amounts_numbers
  have tk := L2N.takes_of (X := cxOf (L2N.CX P w) P w K mg base ["_law_numbers", "_law_many", "e"] "_law_counted" (defScope s__law_counted) f cdv ar ou sh H E) rfl rfl rfl rfl
  refine ⟨_, (pss_cons (ps_tryAs (i := 2) sc__law_counted.nd rfl ⟨rfl, by decide, Or.inl T.g_GangError⟩ tk
      (fun W pn xe tk po => (pss_one (ps_if (pt_cmpR (u_eq K hr.units) (pv 1) pe_int (nomark _))
      (pss_one (ps_expr (pe_mkR0 MR_Amounts (hr.mono (by decide)) (ps_of tk))))
      (pss_one (ps_if (pt_cmpR (u_eq K hr.units) (pv 1) pe_int (nomark _))
      (pss_one (ps_expr (pe_mkR MR_Amounts (hr.mono (by decide)) (ps_of tk) (pa_cons (pe_ix (u_ix K) (pv 0) pe_int (fun _ _ => rfl)) (pa_cons (pe_ix (u_ix K) (pv 0) pe_int (fun _ _ => rfl)) (pa_cons (pe_ix (u_ix K) (pv 0) pe_int (fun _ _ => rfl)) (pa_cons (pe_ix (u_ix K) (pv 0) pe_int (fun _ _ => rfl)) pa_nil)))))))
      (pss_one (ps_expr (pe_mkR MR_Amounts (hr.mono (by decide)) (ps_of tk) (pa_cons (pe_ix (u_ix K) (pv 0) pe_int (fun _ _ => rfl)) (pa_cons (pe_ix (u_ix K) (pv 0) pe_int (fun _ _ => rfl)) (pa_cons (pe_ix (u_ix K) (pv 0) pe_int (fun _ _ => rfl)) (pa_cons (pe_ix (u_ix K) (pv 0) pe_int (fun _ _ => rfl)) (pa_cons (pe_ix (u_ix K) (pv 0) pe_int (fun _ _ => rfl)) pa_nil)))))))))))))
      (fun a oe cls d pn hz hf => (pss_one (ps_ret (pe_and (pe_callB (call_isX K mg hz.zc hf) (by rfl) T.b_isinstance (by decide +kernel) (pa_cons (pv 2) (pa_cons (pe_glob (v := .ref c.BadAmounts) rfl T.g_BadAmounts rfl) pa_nil))) (pe_one (pe_cmpR (u_eq K hr.units) (pe_subj K mg hz.zc hf (pv 2)) (pe_callTy (c_tuple K) (by rfl) T.b_tuple (by decide +kernel) (pa_cons (pe_slice (u_sl K) (pv 0) po_none (po_some (pv 1))) pa_nil)) (nomark _))))))))
      (pss_one (ps_ret pe_bl))), ?_⟩
  try dsimp only [L2H.cxH, cxOf, Cx.suite, Cx.tr, List.map_cons, List.map_nil]
  refine run_start (σ := [some (.ref q), some (.int (j : Int)), none]) rfl ?_
  clear tk
  obtain ⟨n1, n2, n3, n4, n5, rfl⟩ : ∃ n1 n2 n3 n4 n5, ns = [n1, n2, n3, n4, n5] := by
    match ns, hl with
    | [n1, n2, n3, n4, n5], _ => exact ⟨n1, n2, n3, n4, n5, rfl⟩
  simp only [List.map_cons, List.map_nil] at hq
  rcases hw with rfl | rfl | rfl
  · end_str
    refine mk_am_bad (by simp) (by simp) fun u d H1 e1 hu hd => ?_
    refine w_as T.x_BadAmounts_GangError fun ae oe pn na => ?_
    reads_via
    refine v_isX T.e_BadAmounts (by got_up) T.k_BadAmounts_BadAmounts (.own _) ?_
    reads_via
    refine v_subj T.e_BadAmounts (by got_up) ?_
    reads_via
    refine v_slLn (n := 0) (by got_up) fun p2 H2 np2 e2 hp2 => ?_
    reads_via
    rename_i p3 H3 np3 e3 hp3
    refine v_eqTI (ms := []) (ns := []) (by got_up) (by got_up) ?_
    rw [decide_eq_true rfl]
    exact k H3 ((e1.trans e2).trans e3)
  · end_str
    refine mk_am_bad (by simp) (by simp) fun u d H1 e1 hu hd => ?_
    refine w_as T.x_BadAmounts_GangError fun ae oe pn na => ?_
    reads_via
    refine v_isX T.e_BadAmounts (by got_up) T.k_BadAmounts_BadAmounts (.own _) ?_
    reads_via
    refine v_subj T.e_BadAmounts (by got_up) ?_
    reads_via
    refine v_slLn (n := 4) (by got_up) fun p2 H2 np2 e2 hp2 => ?_
    reads_via
    rename_i p3 H3 np3 e3 hp3
    refine v_eqTI (ms := [n1, n2, n3, n4]) (ns := [n1, n2, n3, n4]) (by got_up) (by got_up) ?_
    rw [decide_eq_true rfl]
    exact k H3 ((e1.trans e2).trans e3)
  · end_str
    refine mk_am_bad (by simp) (by simp) fun u d H1 e1 hu hd => ?_
    refine w_as T.x_BadAmounts_GangError fun ae oe pn na => ?_
    reads_via
    refine v_isX T.e_BadAmounts (by got_up) T.k_BadAmounts_BadAmounts (.own _) ?_
    reads_via
    refine v_subj T.e_BadAmounts (by got_up) ?_
    reads_via
    refine v_slLn (n := 5) (by got_up) fun p2 H2 np2 e2 hp2 => ?_
    reads_via
    rename_i p3 H3 np3 e3 hp3
    refine v_eqTI (ms := [n1, n2, n3, n4, n5]) (ns := [n1, n2, n3, n4, n5]) (by got_up) (by got_up) ?_
    rw [decide_eq_true rfl]
    exact k H3 ((e1.trans e2).trans e3)
set_option maxHeartbeats 1000000 in
theorem ok_Amounts___mod__ {P : Program} {w : World} {K : PySem.W.Frag} {mg : Str → Option Value} {base : Heap} {c : Ad} {f : Addr} {fd : FuncData} (F : Fun K "__mod__" "Amounts.__mod__" s_Amounts___mod__ f fd) (T : Txt K mg c) (S_Amounts___sub__ : Sm P w K mg base c.Amounts "__sub__" 3 ["self", "other"] (sp_Amounts___sub__ c)) (S_Amounts___mul__ : Sm P w K mg base c.Amounts "__mul__" 3 ["self", "other"] (sp_Amounts___mul__ c)) (S_Amounts___floordiv__ : Sm P w K mg base c.Amounts "__floordiv__" 2 ["self", "other"] (sp_Amounts___floordiv__ c)) :
    FnOk P w K mg base (L2N.CX P w) 4 f fd ["self", "other"] (sp_Amounts___mod__ c) := by
  refine GG.Fun.okN F sc_Amounts___mod__ (fun vs H Q E h => h.1) (fun cdv ar ou sh H vs Q E hr h => ?_)
  obtain ⟨_, a, dx, u, b, dy, v, xs, ys, rfl, ha, hu, hb, hv, l1, l2, l3, hne, kE⟩ := h
  have hO := T.o_Amounts
  have hcl := T.o_Amounts.cl
  have hn1 := T.na_Amounts_numbers
  have tk := L2N.takes_of (X := cxOf (L2N.CX P w) P w K mg base ["self", "other"] "Amounts.__mod__" (defScope s_Amounts___mod__) f cdv ar ou sh H E) rfl rfl rfl rfl
  refine ⟨_, (pss_one (ps_ret (pe_opS (op_own S_Amounts___sub__ (hr.mono (by decide)) (ps_of tk) T.sf_Amounts) (pv 0) (pe_opS (op_ownI S_Amounts___mul__ (hr.mono (by decide)) (ps_of tk) T.sf_Amounts T.ri_Amounts___mul__) (pv 1) (pe_opS (op_own S_Amounts___floordiv__ (hr.mono (by decide)) (ps_of tk) T.sf_Amounts) (pv 0) (pv 1)))))), ?_⟩
  try dsimp only [L2H.cxH, cxOf, Cx.suite, Cx.tr, List.map_cons, List.map_nil]
  refine run_start (σ := [some (.ref a), some (.ref b)]) rfl ?_
  clear tk
  reads_via
  refine ⟨rfl, a, dx, u, b, dy, v, xs, ys, rfl, ha, hu, hb, hv, l1, l2, l3, hne, kE⟩
set_option maxHeartbeats 1000000 in
theorem ok__law_near {P : Program} {w : World} {K : PySem.W.Frag} {mg : Str → Option Value} {base : Heap} {c : Ad} {f : Addr} {fd : FuncData} (F : Fun K "_law_near" "_law_near" s__law_near f fd) (T : Txt K mg c) (F__law_signed : Fn P w K mg base "_law_signed" 3 ["_law_pool_here", "_law_groups"] [] (sp__law_signed c)) (F__law_draw : Fn P w K mg base "_law_draw" 1 ["_law_pool_here", "_law_many"] [] (sp__law_draw c)) :
    FnOk P w K mg base (L2N.CX P w) 4 f fd ["_law_pool_here", "_law_number_here"] (sp__law_near c) := by
  refine GG.Fun.okN F sc__law_near (fun vs H Q E h => h.1) (fun cdv ar ou sh H vs Q E hr h => ?_)
  obtain ⟨_, p, n, rfl, hp, n0, n1, k⟩ := h
  have tk := L2N.takes_of (X := cxOf (L2N.CX P w) P w K mg base ["_law_pool_here", "_law_number_here", "_law_way"] "_law_near" (defScope s__law_near) f cdv ar ou sh H E) rfl rfl rfl rfl
  refine ⟨_, (pss_cons (ps_asg (pe_fn F__law_draw (hr.mono (by decide)) (ps_of tk) (pa_cons (pv 0) (pa_cons pe_int pa_nil))) (pg_name (i := 2) sc__law_near.nd rfl (Or.inl rfl)))
      (pss_cons (ps_if (pt_cmpR (u_eq K hr.units) (pv 2) pe_int (nomark _))
      (pss_one (ps_ret (pv 1)))
      pss_nil)
      (pss_cons (ps_if (PW.pt (pw_and (pt_cmpR (u_eq K hr.units) (pv 2) pe_int (nomark _)) (pw_and1 (pt_cmpR u_gt (pv 1) pe_int (nomark _)))))
      (pss_one (ps_ret (pe_op u_sub (pv 1) pe_int)))
      pss_nil)
      (pss_cons (ps_if (pt_cmpR (u_eq K hr.units) (pv 2) pe_int (nomark _))
      (pss_one (ps_ret (pe_op (u_add K) (pv 1) pe_int)))
      pss_nil)
      (pss_one (ps_ret (pe_fn F__law_signed (hr.mono (by decide)) (ps_of tk) (pa_cons (pv 0) (pa_cons pe_int pa_nil))))))))), ?_⟩
  try dsimp only [L2H.cxH, cxOf, Cx.suite, Cx.tr, List.map_cons, List.map_nil]
  refine run_start (σ := [some (.ref p), some (.int n), none]) rfl ?_
  clear tk
  reads_via
  refine call_draw hp (by decide) (by decide) fun r H1 r0 r1 e1 p1 => ?_
  reads_via
  refine br_d (fun c1 => ?_) (fun c1 => ?_)
  · reads_via
    exact k _ _ n0 n1 e1 p1
  reads_via
  refine br_d (fun c2 => ?_) (fun c2 => ?_)
  · reads_via
    refine br_d (fun c3 => ?_) (fun c3 => ?_)
    · reads_via
      exact k _ _ (by omega) (by omega) e1 p1
    · subst c2
      reads_via
      exact k _ _ (by omega) (by omega) e1 p1
  · reads_via
    rw [decide_eq_false c2]
    reads_via
    refine ⟨rfl, p, 10, rfl, p1, by decide, by decide, fun r2 H2 h3 h4 e2 p2 => ?_⟩
    exact k _ _ h3 h4 (e1.trans e2) p2
set_option maxHeartbeats 1000000 in
theorem ok__law_is {P : Program} {w : World} {K : PySem.W.Frag} {mg : Str → Option Value} {base : Heap} {c : Ad} {f : Addr} {fd : FuncData} (F : Fun K "_law_is" "_law_is" s__law_is f fd) (T : Txt K mg c) (F__law_whole : Fn P w K mg base "_law_whole" 1 ["_law_value"] [] (sp__law_whole c)) (S_Amounts___getitem__ : Sm P w K mg base c.Amounts "__getitem__" 1 ["self", "at"] (sp_Amounts___getitem__ c)) (S_Amounts___bool__ : Sm P w K mg base c.Amounts "__bool__" 1 ["self"] (sp_Amounts___bool__ c)) (S_Amounts___iter__ : Sm P w K mg base c.Amounts "__iter__" 1 ["self"] (sp_Amounts___iter__ c)) (S_Amounts___len__ : Sm P w K mg base c.Amounts "__len__" 1 ["self"] (sp_Amounts___len__ c)) :
    FnOk P w K mg base (L2N.CX P w) 5 f fd ["_law_row_here", "_law_numbers"] (sp__law_is c) := by
  refine GG.Fun.okN F sc__law_is (fun vs H Q E h => h.1) (fun cdv ar ou sh H vs Q E hr h => ?_)
  obtain ⟨_, x, dx, u, q, ns, rfl, hx, hu, hq, l1, l3, k⟩ := h
  have hO := T.o_Amounts
  have hcl := T.o_Amounts.cl
  have hn1 := T.na_Amounts_numbers
  have tk := L2N.takes_of (X := cxOf (L2N.CX P w) P w K mg base ["_law_row_here", "_law_numbers", "_law_k"] "_law_is" (defScope s__law_is) f cdv ar ou sh H E) rfl rfl rfl rfl
  refine ⟨_, (pss_cons (ps_if (PW.pt (pw_or (pt_not (pt_tru K (pe_callB (c_isi K) (by rfl) T.b_isinstance (by decide +kernel) (pa_cons (pv 0) (pa_cons (pe_glob (v := .ref c.Amounts) rfl T.g_Amounts rfl) pa_nil))) (by intro _; rfl))) (pw_or (pt_not (pt_tru K (pe_callB (c_isi K) (by rfl) T.b_isinstance (by decide +kernel) (pa_cons (pe_fldK K (pe_fld (pv 0) rfl)) (pa_cons (pe_bltn (v := .ty "tuple") rfl T.b_tuple (by decide +kernel) rfl) pa_nil))) (by intro _; rfl))) (pw_or1 (pt_cmpR (u_ne K hr.units) (pe_callTy (c_list K) (by rfl) T.b_list (by decide +kernel) (pa_cons (pe_fldK K (pe_fld (pv 0) rfl)) pa_nil)) (pv 1) (nomark _))))))
      (pss_one (ps_ret pe_bl))
      pss_nil)
      (pss_cons (ps_if (PW.pt (pw_or (pt_cmpR (u_ne K hr.units) (pe_callBS (call_ownLen S_Amounts___len__ (hr.mono (by decide)) (ps_of tk)) T.b_len (by decide +kernel) (pa_cons (pv 0) pa_nil)) (pe_callB (c_len K) (by rfl) T.b_len (by decide +kernel) (pa_cons (pv 1) pa_nil)) (nomark _)) (pw_or (pt_cmpR (u_ne K hr.units) (pe_callTy (c_lsOwn K S_Amounts___iter__ S_Amounts___len__ (hr.mono (by decide)) (hr.mono (by decide)) rfl) (by rfl) T.b_list (by decide +kernel) (pa_cons (pv 0) pa_nil)) (pv 1) (nomark _)) (pw_or1 (pt_cmpR (u_ne K hr.units) (pe_callTS (call_ownBool S_Amounts___bool__ (hr.mono (by decide)) (ps_of tk)) T.b_bool (by decide +kernel) (pa_cons (pv 0) pa_nil)) (pe_cmpR (u_ne K hr.units) (pv 1) (pe_op u_mul (pe_lst (pa_cons pe_int pa_nil)) (pe_callB (c_len K) (by rfl) T.b_len (by decide +kernel) (pa_cons (pv 1) pa_nil))) (nomark _)) (nomark _))))))
      (pss_one (ps_ret pe_bl))
      pss_nil)
      (pss_cons (ps_for (passes_of rfl) rfl (pi_range1 (by rfl) T.b_range (pa_cons (pe_callB (c_len K) (by rfl) T.b_len (by decide +kernel) (pa_cons (pv 1) pa_nil)) pa_nil)) (pg_name (i := 2) sc__law_is.nd rfl (Or.inl rfl))
      (pss_one (ps_if (PW.pt (pw_or (pt_not (pt_tru K (pe_fn F__law_whole (hr.mono (by decide)) (ps_of tk) (pa_cons (pe_ix (u_ix K) (pe_fldK K (pe_fld (pv 0) rfl)) (pv 2) (fun _ _ => rfl)) pa_nil)) (by intro _; rfl))) (pw_or (pt_not (pt_tru K (pe_fn F__law_whole (hr.mono (by decide)) (ps_of tk) (pa_cons (pe_ixOwn S_Amounts___getitem__ T.gi_Amounts (hr.mono (by decide)) (ps_of tk) (pv 0) (pv 2)) pa_nil)) (by intro _; rfl))) (pw_or1 (pt_cmpR (u_ne K hr.units) (pe_ixOwn S_Amounts___getitem__ T.gi_Amounts (hr.mono (by decide)) (ps_of tk) (pv 0) (pv 2)) (pe_ix (u_ix K) (pv 1) (pv 2) (fun _ _ => rfl)) (nomark _))))))
      (pss_one (ps_ret pe_bl))
      pss_nil)))
      (pss_one (ps_ret pe_bl))))), ?_⟩
  try dsimp only [L2H.cxH, cxOf, Cx.suite, Cx.tr, List.map_cons, List.map_nil]
  refine run_start (σ := [some (.ref x), some (.ref q), none]) rfl ?_
  clear tk
  have hany : (ns.map fun x => !decide (x = 0)).any id = !decide (ns = List.replicate ns.length 0) := by
    rw [Bool.eq_iff_iff]
    simp only [List.any_map, List.any_eq_true, Function.comp, id, Bool.not_eq_true', decide_eq_false_iff_not, List.eq_replicate_iff]
    constructor
    · rintro ⟨z, hz, h0⟩ ⟨_, h⟩
      exact h0 (h z hz)
    · intro h
      rcases Classical.em (∃ z ∈ ns, ¬ z = 0) with h1 | h1
      · exact h1
      · exact absurd ⟨trivial, fun b hb => Classical.byContradiction fun hb0 => h1 ⟨b, hb, hb0⟩⟩ h
  reads_via
  rename_i p1 H1 np1 e1 hp1
  refine v_neLI (by got_up) (by got_up) ?_
  reads_via
  refine ⟨rfl, x, dx, u, ns, rfl, by got_up, by got_up, by omega, ?_⟩
  refine ⟨_, rfl, by omega, by omega, ?_⟩
  reads_via
  rw [List.length_map]
  reads_via
  refine v_lsOwn (by got_up) (show H1 u = _ by got_up) (by simp; omega) (fun H2 Q' e2 hk => ⟨rfl, x, dx, u, ns, rfl, by got_up, by got_up, l3, hk⟩) (fun H2 Q' e2 hk => ⟨rfl, x, dx, u, ns, rfl, by got_up, by got_up, l3, by rw [List.length_map] at hk; exact hk⟩) fun p2 H2 np2 e2 hp2 => ?_
  reads_via
  refine v_neLI (by got_up) (by got_up) ?_
  reads_via
  refine ⟨rfl, x, dx, u, ns, rfl, by got_up, by got_up, l3, fun H3 e3 => ?_⟩
  reads_via
  rename_i p4 H4 np4 e4 hp4
  rw [List.length_map]
  refine v_rep1 (by got_up) (by omega) fun p5 H5 np5 e5 hp5 => ?_
  rw [show List.replicate ns.length (V.int 0) = (List.replicate ns.length (0 : Int)).map V.int by rw [List.map_replicate]] at hp5
  reads_via
  refine v_neLI (by got_up) (by got_up) ?_
  rw [hany]
  reads_via
  have e05 : Ext H H5 := (((e1.trans e2).trans e3).trans e4).trans e5
  clear e1 e2 e3 e4 e5
  rw [List.length_map]
  refine r_rng1 (by omega) (by omega) ?_
  refine f_range0 (fun i σ H' => ∃ v2, σ = [some (.ref x), some (.ref q), v2] ∧ Ext H H') ⟨none, rfl, e05⟩ ?_ ?_
  · rintro i σ H' hi ⟨v2, rfl, e⟩
    rw [Int.toNat_natCast] at hi
    reads_via
    refine v_ixT (by got_up) (by omega) (int_get hi) ?_
    reads_via
    refine ⟨rfl, x, dx, u, ns, i, rfl, by got_up, by got_up, hi, ?_⟩
    reads_via
    refine ⟨rfl, x, dx, u, ns, i, rfl, by got_up, by got_up, hi, ?_⟩
    reads_via
    refine v_ixLn (by got_up) (int_get hi) ?_
    reads_via
    exact ⟨_, rfl, e⟩
  · rintro σ H' ⟨v2, rfl, e⟩
    reads_via
    exact k _ e
set_option maxHeartbeats 1000000 in
theorem ok__law_subject {P : Program} {w : World} {K : PySem.W.Frag} {mg : Str → Option Value} {base : Heap} {c : Ad} {f : Addr} {fd : FuncData} (F : Fun K "_law_subject" "_law_subject" s__law_subject f fd) (T : Txt K mg c) (S_Amounts___add__ : Sm P w K mg base c.Amounts "__add__" 3 ["self", "other"] (sp_Amounts___add__ c)) (S_Amounts___sub__ : Sm P w K mg base c.Amounts "__sub__" 3 ["self", "other"] (sp_Amounts___sub__ c)) (S_Amounts___and__ : Sm P w K mg base c.Amounts "__and__" 3 ["self", "other"] (sp_Amounts___and__ c)) (S_Amounts___or__ : Sm P w K mg base c.Amounts "__or__" 3 ["self", "other"] (sp_Amounts___or__ c)) (S_Amounts___contains__ : Sm P w K mg base c.Amounts "__contains__" 2 ["self", "row"] (sp_Amounts___contains__ c)) (S_Amounts___floordiv__ : Sm P w K mg base c.Amounts "__floordiv__" 2 ["self", "other"] (sp_Amounts___floordiv__ c)) (S_Amounts___mod__ : Sm P w K mg base c.Amounts "__mod__" 4 ["self", "other"] (sp_Amounts___mod__ c)) :
    FnOk P w K mg base (L2N.CX P w) 5 f fd ["_law_one", "_law_other", "_law_way"] (sp__law_subject c) := by
  refine GG.Fun.okN F sc__law_subject (fun vs H Q E h => h.1) (fun cdv ar ou sh H vs Q E hr h => ?_)
  obtain ⟨_, a, dx, u, b, dy, v, xs, ys, j, rfl, ha, hu, hb, hv, l1, l2, l3, hne, hw, k⟩ := h
  have hO := T.o_Amounts
  have hcl := T.o_Amounts.cl
  have hn1 := T.na_Amounts_numbers
  have tk := L2N.takes_of (X := cxOf (L2N.CX P w) P w K mg base ["_law_one", "_law_other", "_law_way", "e", "_law_found"] "_law_subject" (defScope s__law_subject) f cdv ar ou sh H E) rfl rfl rfl rfl
  refine ⟨_, (pss_cons (ps_tryAs (i := 3) sc__law_subject.nd rfl ⟨rfl, by decide, Or.inl T.g_GangError⟩ tk
      (fun W pn xe tk po => (pss_one (ps_if (pt_cmpR (u_eq K hr.units) (pv 2) pe_int (nomark _))
      (pss_one (ps_asg (pe_opS (op_own S_Amounts___add__ (hr.mono (by decide)) (ps_of tk) T.sf_Amounts) (pv 0) (pv 1)) (pg_name (i := 4) sc__law_subject.nd rfl (Or.inl rfl))))
      (pss_one (ps_if (pt_cmpR (u_eq K hr.units) (pv 2) pe_int (nomark _))
      (pss_one (ps_asg (pe_opS (op_own S_Amounts___sub__ (hr.mono (by decide)) (ps_of tk) T.sf_Amounts) (pv 0) (pv 1)) (pg_name (i := 4) sc__law_subject.nd rfl (Or.inl rfl))))
      (pss_one (ps_if (pt_cmpR (u_eq K hr.units) (pv 2) pe_int (nomark _))
      (pss_one (ps_asg (pe_opS (op_own S_Amounts___and__ (hr.mono (by decide)) (ps_of tk) T.sf_Amounts) (pv 0) (pv 1)) (pg_name (i := 4) sc__law_subject.nd rfl (Or.inl rfl))))
      (pss_one (ps_if (pt_cmpR (u_eq K hr.units) (pv 2) pe_int (nomark _))
      (pss_one (ps_asg (pe_opS (op_own S_Amounts___or__ (hr.mono (by decide)) (ps_of tk) T.sf_Amounts) (pv 0) (pv 1)) (pg_name (i := 4) sc__law_subject.nd rfl (Or.inl rfl))))
      (pss_one (ps_if (pt_cmpR (u_eq K hr.units) (pv 2) pe_int (nomark _))
      (pss_one (ps_asg (pe_cmpS (op_ownIn S_Amounts___contains__ (hr.mono (by decide)) (ps_of tk)) (pv 1) (pv 0) rfl) (pg_name (i := 4) sc__law_subject.nd rfl (Or.inl rfl))))
      (pss_one (ps_if (pt_cmpR (u_eq K hr.units) (pv 2) pe_int (nomark _))
      (pss_one (ps_asg (pe_opS (op_own S_Amounts___floordiv__ (hr.mono (by decide)) (ps_of tk) T.sf_Amounts) (pv 0) (pv 1)) (pg_name (i := 4) sc__law_subject.nd rfl (Or.inl rfl))))
      (pss_one (ps_asg (pe_opS (op_own S_Amounts___mod__ (hr.mono (by decide)) (ps_of tk) T.sf_Amounts) (pv 0) (pv 1)) (pg_name (i := 4) sc__law_subject.nd rfl (Or.inl rfl)))))))))))))))))
      (fun a oe cls d pn hz hf => (pss_cons (ps_if (PW.pt (pw_and (pt_tru K (pe_callB (call_isX K mg hz.zc hf) (by rfl) T.b_isinstance (by decide +kernel) (pa_cons (pv 3) (pa_cons (pe_glob (v := .ref c.BadAmounts) rfl T.g_BadAmounts rfl) pa_nil))) (by intro _; rfl)) (pw_and (pt_tru K (pe_callB (call_isX K mg hz.zc hf) (by rfl) T.b_isinstance (by decide +kernel) (pa_cons (pv 3) (pa_cons (pe_bltn (v := .ty "ValueError") rfl T.b_ValueError (by decide +kernel) rfl) pa_nil))) (by intro _; rfl)) (pw_and1 (pt_not (pt_tru K (pe_callB (call_isXT K mg hz.zc hf) (by rfl) T.b_isinstance (by decide +kernel) (pa_cons (pv 3) (pa_cons (pe_tup (pa_cons (pe_glob (v := .ref c.BadShare) rfl T.g_BadShare rfl) (pa_cons (pe_glob (v := .ref c.BadSpan) rfl T.g_BadSpan rfl) pa_nil))) pa_nil))) (by intro _; rfl)))))))
      (pss_one (ps_ret (pe_lst (pa_cons (pe_subj K mg hz.zc hf (pv 3)) pa_nil))))
      pss_nil)
      (pss_one (ps_ret (pe_lst pa_nil))))))
      (pss_one (ps_ret (pe_slice (u_sl K) (pe_lst (pa_cons (pv 4) pa_nil)) po_none (po_some pe_int))))), ?_⟩
  try dsimp only [L2H.cxH, cxOf, Cx.suite, Cx.tr, List.map_cons, List.map_nil]
  refine run_start (σ := [some (.ref a), some (.ref b), some (.int (j : Int)), none, none]) rfl ?_
  clear tk
  match j, hw with
  | 0, _ =>
    end_str
    refine ⟨rfl, a, dx, u, b, dy, v, xs, ys, rfl, ha, hu, hb, hv, l1, l2, l3, fun hl => absurd hl hne, fun hl d H1 e1 hd => ?_⟩
    refine w_as T.x_BadAmounts_GangError fun ae oe pn na => ?_
    reads_via
    refine v_isX T.e_BadAmounts (by got_up) T.k_BadAmounts_BadAmounts (.own _) ?_
    reads_via
    refine v_isX T.e_BadAmounts (by got_up) T.k_BadAmounts_ValueError (.ty _) ?_
    reads_via
    rename_i tp H2 ntp e2 htp
    refine v_isXT (us := [.ref c.BadShare, .ref c.BadSpan]) T.e_BadAmounts (by got_up) (by got_up) (.cons (.own _) (.cons (.own _) .nil)) (kitAny_cons T.k_BadAmounts_BadShare (fun _ => kitAny_cons T.k_BadAmounts_BadSpan (fun _ => rfl) (fun z => nomatch z)) (fun z => nomatch z)) ?_
    reads_via
    refine v_subj T.e_BadAmounts (by got_up) ?_
    reads_via
    rename_i r H3 nr e3 hr3
    exact k r H3 ((e1.trans e2).trans e3) hr3
  | 1, _ =>
    end_str
    refine ⟨rfl, a, dx, u, b, dy, v, xs, ys, rfl, ha, hu, hb, hv, l1, l2, l3, fun hl => absurd hl hne, fun hl d H1 e1 hd => ?_⟩
    refine w_as T.x_BadAmounts_GangError fun ae oe pn na => ?_
    reads_via
    refine v_isX T.e_BadAmounts (by got_up) T.k_BadAmounts_BadAmounts (.own _) ?_
    reads_via
    refine v_isX T.e_BadAmounts (by got_up) T.k_BadAmounts_ValueError (.ty _) ?_
    reads_via
    rename_i tp H2 ntp e2 htp
    refine v_isXT (us := [.ref c.BadShare, .ref c.BadSpan]) T.e_BadAmounts (by got_up) (by got_up) (.cons (.own _) (.cons (.own _) .nil)) (kitAny_cons T.k_BadAmounts_BadShare (fun _ => kitAny_cons T.k_BadAmounts_BadSpan (fun _ => rfl) (fun z => nomatch z)) (fun z => nomatch z)) ?_
    reads_via
    refine v_subj T.e_BadAmounts (by got_up) ?_
    reads_via
    rename_i r H3 nr e3 hr3
    exact k r H3 ((e1.trans e2).trans e3) hr3
  | 2, _ =>
    end_str
    refine ⟨rfl, a, dx, u, b, dy, v, xs, ys, rfl, ha, hu, hb, hv, l1, l2, l3, fun hl => absurd hl hne, fun hl d H1 e1 hd => ?_⟩
    refine w_as T.x_BadAmounts_GangError fun ae oe pn na => ?_
    reads_via
    refine v_isX T.e_BadAmounts (by got_up) T.k_BadAmounts_BadAmounts (.own _) ?_
    reads_via
    refine v_isX T.e_BadAmounts (by got_up) T.k_BadAmounts_ValueError (.ty _) ?_
    reads_via
    rename_i tp H2 ntp e2 htp
    refine v_isXT (us := [.ref c.BadShare, .ref c.BadSpan]) T.e_BadAmounts (by got_up) (by got_up) (.cons (.own _) (.cons (.own _) .nil)) (kitAny_cons T.k_BadAmounts_BadShare (fun _ => kitAny_cons T.k_BadAmounts_BadSpan (fun _ => rfl) (fun z => nomatch z)) (fun z => nomatch z)) ?_
    reads_via
    refine v_subj T.e_BadAmounts (by got_up) ?_
    reads_via
    rename_i r H3 nr e3 hr3
    exact k r H3 ((e1.trans e2).trans e3) hr3
  | 3, _ =>
    end_str
    refine ⟨rfl, a, dx, u, b, dy, v, xs, ys, rfl, ha, hu, hb, hv, l1, l2, l3, fun hl => absurd hl hne, fun hl d H1 e1 hd => ?_⟩
    refine w_as T.x_BadAmounts_GangError fun ae oe pn na => ?_
    reads_via
    refine v_isX T.e_BadAmounts (by got_up) T.k_BadAmounts_BadAmounts (.own _) ?_
    reads_via
    refine v_isX T.e_BadAmounts (by got_up) T.k_BadAmounts_ValueError (.ty _) ?_
    reads_via
    rename_i tp H2 ntp e2 htp
    refine v_isXT (us := [.ref c.BadShare, .ref c.BadSpan]) T.e_BadAmounts (by got_up) (by got_up) (.cons (.own _) (.cons (.own _) .nil)) (kitAny_cons T.k_BadAmounts_BadShare (fun _ => kitAny_cons T.k_BadAmounts_BadSpan (fun _ => rfl) (fun z => nomatch z)) (fun z => nomatch z)) ?_
    reads_via
    refine v_subj T.e_BadAmounts (by got_up) ?_
    reads_via
    rename_i r H3 nr e3 hr3
    exact k r H3 ((e1.trans e2).trans e3) hr3
  | 4, _ =>
    end_str
    refine ⟨rfl, a, dx, u, b, dy, v, xs, ys, rfl, ha, hu, hb, hv, l1, l2, l3, fun hl => absurd hl hne, fun hl d H1 e1 hd => ?_⟩
    refine w_as T.x_BadAmounts_GangError fun ae oe pn na => ?_
    reads_via
    refine v_isX T.e_BadAmounts (by got_up) T.k_BadAmounts_BadAmounts (.own _) ?_
    reads_via
    refine v_isX T.e_BadAmounts (by got_up) T.k_BadAmounts_ValueError (.ty _) ?_
    reads_via
    rename_i tp H2 ntp e2 htp
    refine v_isXT (us := [.ref c.BadShare, .ref c.BadSpan]) T.e_BadAmounts (by got_up) (by got_up) (.cons (.own _) (.cons (.own _) .nil)) (kitAny_cons T.k_BadAmounts_BadShare (fun _ => kitAny_cons T.k_BadAmounts_BadSpan (fun _ => rfl) (fun z => nomatch z)) (fun z => nomatch z)) ?_
    reads_via
    refine v_subj T.e_BadAmounts (by got_up) ?_
    reads_via
    rename_i r H3 nr e3 hr3
    exact k r H3 ((e1.trans e2).trans e3) hr3
  | 5, _ =>
    end_str
    refine ⟨rfl, a, dx, u, b, dy, v, xs, ys, rfl, ha, hu, hb, hv, l1, l2, l3, hne, fun d H1 e1 hd => ?_⟩
    refine w_as T.x_BadAmounts_GangError fun ae oe pn na => ?_
    reads_via
    refine v_isX T.e_BadAmounts (by got_up) T.k_BadAmounts_BadAmounts (.own _) ?_
    reads_via
    refine v_isX T.e_BadAmounts (by got_up) T.k_BadAmounts_ValueError (.ty _) ?_
    reads_via
    rename_i tp H2 ntp e2 htp
    refine v_isXT (us := [.ref c.BadShare, .ref c.BadSpan]) T.e_BadAmounts (by got_up) (by got_up) (.cons (.own _) (.cons (.own _) .nil)) (kitAny_cons T.k_BadAmounts_BadShare (fun _ => kitAny_cons T.k_BadAmounts_BadSpan (fun _ => rfl) (fun z => nomatch z)) (fun z => nomatch z)) ?_
    reads_via
    refine v_subj T.e_BadAmounts (by got_up) ?_
    reads_via
    rename_i r H3 nr e3 hr3
    exact k r H3 ((e1.trans e2).trans e3) hr3
  | 6, _ =>
    end_str
    refine ⟨rfl, a, dx, u, b, dy, v, xs, ys, rfl, ha, hu, hb, hv, l1, l2, l3, hne, fun d H1 e1 hd => ?_⟩
    refine w_as T.x_BadAmounts_GangError fun ae oe pn na => ?_
    reads_via
    refine v_isX T.e_BadAmounts (by got_up) T.k_BadAmounts_BadAmounts (.own _) ?_
    reads_via
    refine v_isX T.e_BadAmounts (by got_up) T.k_BadAmounts_ValueError (.ty _) ?_
    reads_via
    rename_i tp H2 ntp e2 htp
    refine v_isXT (us := [.ref c.BadShare, .ref c.BadSpan]) T.e_BadAmounts (by got_up) (by got_up) (.cons (.own _) (.cons (.own _) .nil)) (kitAny_cons T.k_BadAmounts_BadShare (fun _ => kitAny_cons T.k_BadAmounts_BadSpan (fun _ => rfl) (fun z => nomatch z)) (fun z => nomatch z)) ?_
    reads_via
    refine v_subj T.e_BadAmounts (by got_up) ?_
    reads_via
    rename_i r H3 nr e3 hr3
    exact k r H3 ((e1.trans e2).trans e3) hr3
set_option maxHeartbeats 4000000 in
theorem ok__law_pair {P : Program} {w : World} {K : PySem.W.Frag} {mg : Str → Option Value} {base : Heap} {c : Ad} {f : Addr} {fd : FuncData} (F : Fun K "_law_pair" "_law_pair" s__law_pair f fd) (T : Txt K mg c) (F__law_within : Fn P w K mg base "_law_within" 1 ["_law_inner", "_law_outer"] [] (sp__law_within c)) (F__law_is : Fn P w K mg base "_law_is" 5 ["_law_row_here", "_law_numbers"] [] (sp__law_is c)) (S_Amounts___contains__ : Sm P w K mg base c.Amounts "__contains__" 2 ["self", "row"] (sp_Amounts___contains__ c)) (S_Amounts___or__ : Sm P w K mg base c.Amounts "__or__" 3 ["self", "other"] (sp_Amounts___or__ c)) (S_Amounts___and__ : Sm P w K mg base c.Amounts "__and__" 3 ["self", "other"] (sp_Amounts___and__ c)) (S_Amounts___eq__ : Sm P w K mg base c.Amounts "__eq__" 1 ["self", "other"] (sp_Amounts___eq__ c)) :
    FnOk P w K mg base (L2N.CX P w) 6 f fd ["_law_one", "_law_a", "_law_other", "_law_b", "_law_third", "_law_c"] (sp__law_pair c) := by
  refine GG.Fun.okN F sc__law_pair (fun vs H Q E h => h.1) (fun cdv ar ou sh H vs Q E hr h => ?_)
  obtain ⟨_, x, dx, u, p, y, dy, v, q, z, dz, e, r, xs, ys, zs, rfl, hx, hu, hp, hy, hv, hq, hz, he, hrr, l1, l3, hxy, hxz, k⟩ := h
  have hO := T.o_Amounts
  have hcl := T.o_Amounts.cl
  have hn1 := T.na_Amounts_numbers
  have tk := L2N.takes_of (X := cxOf (L2N.CX P w) P w K mg base ["_law_one", "_law_a", "_law_other", "_law_b", "_law_third", "_law_c", "_law_least", "_law_most", "_law_k"] "_law_pair" (defScope s__law_pair) f cdv ar ou sh H E) rfl rfl rfl rfl
  refine ⟨_, (pss_cons (ps_lcV [8] (ps_setLc (i := 6) (own := [("_law_k", 8)])  (by rfl) sc__law_pair.nd rfl rfl (sw_true rfl rfl rfl (by decide +kernel)) (pi_range1 (by rfl) T.b_range (pa_cons (pe_callB (c_len K) (by rfl) T.b_len (by decide +kernel) (pa_cons (pv 1) pa_nil)) pa_nil)) (blkOk_by (own := [("_law_k", 8)]) (N := ["_law_one", "_law_a", "_law_other", "_law_b", "_law_third", "_law_c", "_law_least", "_law_most", "_law_k"]) (sc := defScope s__law_pair) (by decide +kernel)) (fun _ _ _ _ _ => (pg_name (i := 8) sc__law_pair.nd rfl (Or.inl rfl))) (fun _ _ _ _ _ => pts_nil) (fun _ _ _ _ _ => (pe_callB (c_min2 rfl) (by rfl) T.b_min (by decide +kernel) (pa_cons (pe_ix (u_ix K) (pv 1) (pv 8) (fun _ _ => rfl)) (pa_cons (pe_ix (u_ix K) (pv 3) (pv 8) (fun _ _ => rfl)) pa_nil))))))
      (pss_cons (ps_lcV [8] (ps_setLc (i := 7) (own := [("_law_k", 8)])  (by rfl) sc__law_pair.nd rfl rfl (sw_true rfl rfl rfl (by decide +kernel)) (pi_range1 (by rfl) T.b_range (pa_cons (pe_callB (c_len K) (by rfl) T.b_len (by decide +kernel) (pa_cons (pv 1) pa_nil)) pa_nil)) (blkOk_by (own := [("_law_k", 8)]) (N := ["_law_one", "_law_a", "_law_other", "_law_b", "_law_third", "_law_c", "_law_least", "_law_most", "_law_k"]) (sc := defScope s__law_pair) (by decide +kernel)) (fun _ _ _ _ _ => (pg_name (i := 8) sc__law_pair.nd rfl (Or.inl rfl))) (fun _ _ _ _ _ => pts_nil) (fun _ _ _ _ _ => (pe_callB (c_max2 rfl) (by rfl) T.b_max (by decide +kernel) (pa_cons (pe_ix (u_ix K) (pv 1) (pv 8) (fun _ _ => rfl)) (pa_cons (pe_ix (u_ix K) (pv 3) (pv 8) (fun _ _ => rfl)) pa_nil))))))
      (pss_cons (ps_if (PW.pt (pw_or (pt_not (pt_tru K (pe_fn F__law_is (hr.mono (by decide)) (ps_of tk) (pa_cons (pe_opS (op_own S_Amounts___and__ (hr.mono (by decide)) (ps_of tk) T.sf_Amounts) (pv 0) (pv 2)) (pa_cons (pv 6) pa_nil))) (by intro _; rfl))) (pw_or1 (pt_not (pt_tru K (pe_fn F__law_is (hr.mono (by decide)) (ps_of tk) (pa_cons (pe_opS (op_own S_Amounts___or__ (hr.mono (by decide)) (ps_of tk) T.sf_Amounts) (pv 0) (pv 2)) (pa_cons (pv 7) pa_nil))) (by intro _; rfl))))))
      (pss_one (ps_ret pe_bl))
      pss_nil)
      (pss_cons (ps_if (PW.pt (pw_or (pt_cmpR (u_ne K hr.units) (pe_cmpS (op_ownIn S_Amounts___contains__ (hr.mono (by decide)) (ps_of tk)) (pv 2) (pv 0) rfl) (pe_fn F__law_within (hr.mono (by decide)) (ps_of tk) (pa_cons (pv 3) (pa_cons (pv 1) pa_nil))) (nomark _)) (pw_or1 (pt_cmpR (u_ne K hr.units) (pe_callTy c_bool (by rfl) T.b_bool (by decide +kernel) (pa_cons (pe_cmpS (op_ownEq S_Amounts___eq__ (hr.mono (by decide)) (ps_of tk)) (pv 0) (pv 2) (nomark _)) pa_nil)) (pe_cmpR (u_eq K hr.units) (pv 1) (pv 3) (nomark _)) (nomark _)))))
      (pss_one (ps_ret pe_bl))
      pss_nil)
      (pss_cons (ps_if (pt_cmpR (u_ne K hr.units) (pe_cmpS (op_ownIn S_Amounts___contains__ (hr.mono (by decide)) (ps_of tk)) (pv 4) (pe_opS (op_own S_Amounts___and__ (hr.mono (by decide)) (ps_of tk) T.sf_Amounts) (pv 0) (pv 2)) rfl) (pe_and (pe_fn F__law_within (hr.mono (by decide)) (ps_of tk) (pa_cons (pv 5) (pa_cons (pv 1) pa_nil))) (pe_one (pe_fn F__law_within (hr.mono (by decide)) (ps_of tk) (pa_cons (pv 5) (pa_cons (pv 3) pa_nil))))) (nomark _))
      (pss_one (ps_ret pe_bl))
      pss_nil)
      (pss_one (ps_ret (pe_cmpR (u_eq K hr.units) (pe_cmpS (op_ownIn S_Amounts___contains__ (hr.mono (by decide)) (ps_of tk)) (pe_opS (op_own S_Amounts___or__ (hr.mono (by decide)) (ps_of tk) T.sf_Amounts) (pv 0) (pv 2)) (pv 4) rfl) (pe_and (pe_fn F__law_within (hr.mono (by decide)) (ps_of tk) (pa_cons (pv 1) (pa_cons (pv 5) pa_nil))) (pe_one (pe_fn F__law_within (hr.mono (by decide)) (ps_of tk) (pa_cons (pv 3) (pa_cons (pv 5) pa_nil))))) (nomark _))))))))), ?_⟩
  try dsimp only [L2H.cxH, cxOf, Cx.suite, Cx.tr, List.map_cons, List.map_nil]
  refine run_start (σ := [some (.ref x), some (.ref p), some (.ref y), some (.ref q), some (.ref z), some (.ref r), none, none, none]) rfl ?_
  clear tk
  have eb : ∀ (b : Bool) (A B : Prop), B → Br (!decide (b = b)) A B := fun b A B h => by rw [decide_eq_true rfl]; exact h
  reads_via
  rw [List.length_map]
  refine r_rng1 (by omega) (by omega) ?_
  rw [Int.toNat_natCast]
  refine lcPR0 (by omega) (fun i => .int ((fun x y => min x y) (xs.getD i 0) (ys.getD i 0))) (fun i H1 k hi e1 hk => ?_) fun D1 H1 nD1 e1 h1 => ?_
  · reads_via
    refine v_ixLn (by got_up) (int_get hi) ?_
    reads_via
    refine v_ixLn (by got_up) (int_get (by omega)) ?_
    reads_via
    exact hk _ Ext.rfl
  rw [rng_zip (fun x y => min x y) V.int hxy] at h1
  reads_via
  rw [List.length_map]
  refine r_rng1 (by omega) (by omega) ?_
  rw [Int.toNat_natCast]
  refine lcPR0 (by omega) (fun i => .int ((fun x y => max x y) (xs.getD i 0) (ys.getD i 0))) (fun i H2 k hi e2 hk => ?_) fun D2 H2 nD2 e2 h2 => ?_
  · reads_via
    refine v_ixLn (by got_up) (int_get hi) ?_
    reads_via
    refine v_ixLn (by got_up) (int_get (by omega)) ?_
    reads_via
    exact hk _ Ext.rfl
  rw [rng_zip (fun x y => max x y) V.int hxy] at h2
  reads_via
  refine ⟨rfl, x, dx, u, y, dy, v, xs, ys, rfl, by got_up, by got_up, by got_up, by got_up, l1, l3, by omega, fun _ x3 dx3 w3 H3 nx3 e3 h3 hw3 => ?_, fun hl => absurd hxy hl⟩
  reads_via
  refine ⟨rfl, x3, dx3, w3, D1, _, rfl, h3, hw3, by got_up, by simp; omega, by simp; omega, fun H4 e4 => ?_⟩
  reads_via
  refine ⟨rfl, x, dx, u, y, dy, v, xs, ys, rfl, by got_up, by got_up, by got_up, by got_up, l1, l3, by omega, fun _ x5 dx5 w5 H5 nx5 e5 h5 hw5 => ?_, fun hl => absurd hxy hl⟩
  reads_via
  refine ⟨rfl, x5, dx5, w5, D2, _, rfl, h5, hw5, by got_up, by simp; omega, by simp; omega, fun H6 e6 => ?_⟩
  have e06 : Ext H H6 := ((((e1.trans e2).trans e3).trans e4).trans e5).trans e6
  clear e1 e2 e3 e4 e5 e6
  reads_via
  refine ⟨rfl, x, dx, u, y, dy, v, xs, ys, rfl, by got_up, by got_up, by got_up, by got_up, l1, l3, by omega, fun _ H7 e7 => ?_, fun hl => absurd hxy hl⟩
  reads_via
  refine ⟨rfl, q, p, ys, xs, rfl, by got_up, by got_up, by omega, by omega, ?_⟩
  reads_via
  refine ⟨rfl, x, dx, u, y, dy, v, xs, ys, rfl, by got_up, by got_up, by got_up, by got_up, ?_⟩
  reads_via
  refine v_eqLI (by got_up) (by got_up) ?_
  reads_via
  refine ⟨rfl, x, dx, u, y, dy, v, xs, ys, rfl, by got_up, by got_up, by got_up, by got_up, l1, l3, by omega, fun _ x8 dx8 w8 H8 nx8 e8 h8 hw8 => ?_, fun hl => absurd hxy hl⟩
  reads_via
  refine ⟨rfl, x8, dx8, w8, z, dz, e, _, zs, rfl, h8, hw8, by got_up, by got_up, by simp; omega, by simp; omega, by omega, fun _ H9 e9 => ?_, fun hl => absurd (show _ = _ by simp; omega) hl⟩
  rw [within_min hxz (by omega)]
  have e09 : Ext H H9 := ((e06.trans e7).trans e8).trans e9
  clear e06 e7 e8 e9
  reads_via
  refine ⟨rfl, r, p, zs, xs, rfl, by got_up, by got_up, by omega, by omega, ?_⟩
  reads_via
  refine br_b (fun c1 => ?_) (fun c1 => ?_)
  · reads_via
    refine ⟨rfl, r, q, zs, ys, rfl, by got_up, by got_up, by omega, by omega, ?_⟩
    reads_via
    rw [c1, Bool.true_and]
    reads_via
    refine ⟨rfl, x, dx, u, y, dy, v, xs, ys, rfl, by got_up, by got_up, by got_up, by got_up, l1, l3, by omega, fun _ x10 dx10 w10 H10 nx10 e10 h10 hw10 => ?_, fun hl => absurd hxy hl⟩
    reads_via
    refine ⟨rfl, z, dz, e, x10, dx10, w10, zs, _, rfl, by got_up, by got_up, h10, hw10, by omega, by omega, by simp; omega, fun _ H11 e11 => ?_, fun hl => absurd (show _ = _ by simp; omega) hl⟩
    rw [within_max hxz (by omega)]
    reads_via
    refine ⟨rfl, p, r, xs, zs, rfl, by got_up, by got_up, by omega, by omega, ?_⟩
    reads_via
    refine br_b (fun c3 => ?_) (fun c3 => ?_)
    · reads_via
      refine ⟨rfl, q, r, ys, zs, rfl, by got_up, by got_up, by omega, by omega, ?_⟩
      reads_via
      rw [c3, Bool.true_and, decide_eq_true rfl]
      exact k _ ((e09.trans e10).trans e11)
    · reads_via
      rw [c3, Bool.false_and, decide_eq_true rfl]
      exact k _ ((e09.trans e10).trans e11)
  · reads_via
    rw [c1, Bool.false_and]
    reads_via
    refine ⟨rfl, x, dx, u, y, dy, v, xs, ys, rfl, by got_up, by got_up, by got_up, by got_up, l1, l3, by omega, fun _ x10 dx10 w10 H10 nx10 e10 h10 hw10 => ?_, fun hl => absurd hxy hl⟩
    reads_via
    refine ⟨rfl, z, dz, e, x10, dx10, w10, zs, _, rfl, by got_up, by got_up, h10, hw10, by omega, by omega, by simp; omega, fun _ H11 e11 => ?_, fun hl => absurd (show _ = _ by simp; omega) hl⟩
    rw [within_max hxz (by omega)]
    reads_via
    refine ⟨rfl, p, r, xs, zs, rfl, by got_up, by got_up, by omega, by omega, ?_⟩
    reads_via
    refine br_b (fun c3 => ?_) (fun c3 => ?_)
    · reads_via
      refine ⟨rfl, q, r, ys, zs, rfl, by got_up, by got_up, by omega, by omega, ?_⟩
      reads_via
      rw [c3, Bool.true_and, decide_eq_true rfl]
      exact k _ ((e09.trans e10).trans e11)
    · reads_via
      rw [c3, Bool.false_and, decide_eq_true rfl]
      exact k _ ((e09.trans e10).trans e11)
set_option maxHeartbeats 8000000 in
theorem ok_law {P : Program} {w : World} {K : PySem.W.Frag} {mg : Str → Option Value} {base : Heap} {c : Ad} {f : Addr} {fd : FuncData} (F : Fun K "law" "law" s_law f fd) (T : Txt K mg c) (F__law_is : Fn P w K mg base "_law_is" 5 ["_law_row_here", "_law_numbers"] [] (sp__law_is c)) (F__law_counted : Fn P w K mg base "_law_counted" 3 ["_law_numbers", "_law_many"] [] (sp__law_counted c)) (F__law_subject : Fn P w K mg base "_law_subject" 5 ["_law_one", "_law_other", "_law_way"] [] (sp__law_subject c)) (F__law_row : Fn P w K mg base "_law_row" 3 ["_law_numbers"] [] (sp__law_row c)) (F__law_pair : Fn P w K mg base "_law_pair" 6 ["_law_one", "_law_a", "_law_other", "_law_b", "_law_third", "_law_c"] [] (sp__law_pair c)) (F__law_signed : Fn P w K mg base "_law_signed" 3 ["_law_pool_here", "_law_groups"] [] (sp__law_signed c)) (F__law_draw : Fn P w K mg base "_law_draw" 1 ["_law_pool_here", "_law_many"] [] (sp__law_draw c)) (F__law_near : Fn P w K mg base "_law_near" 4 ["_law_pool_here", "_law_number_here"] [] (sp__law_near c)) (F__law_pool : Fn P w K mg base "_law_pool" 1 ["_law_script"] [] (sp__law_pool c)) (S_Amounts___eq__ : Sm P w K mg base c.Amounts "__eq__" 1 ["self", "other"] (sp_Amounts___eq__ c)) :
    FnOk P w K mg base (L2N.CX P w) 7 f fd ["_law_script"] (sp_law c) := by
  refine GG.Fun.okN F sc_law (fun vs H Q E h => h.1) (fun cdv ar ou sh H vs Q E hr h => ?_)
  obtain ⟨_, a, ns, rfl, hS, hn, hb, k⟩ := h
  have hO := T.o_Amounts
  have hcl := T.o_Amounts.cl
  have hn1 := T.na_Amounts_numbers
  have tk := L2N.takes_of (X := cxOf (L2N.CX P w) P w K mg base ["_law_script", "_law_pool_here", "_law_count", "_law_a", "_law_b", "_law_c", "_law_size", "_law_d", "_law_one", "_law_other", "_law_third", "_law_unlike", "_law_plain", "_law_sizes", "_law_fifth", "_law_sixth", "_law_turn", "_law_way", "_law_many", "_law_k", "_law_number_here"] "law" (defScope s_law) f cdv ar ou sh H E) rfl rfl rfl rfl
  refine ⟨_, (pss_cons (ps_asg (pe_fn F__law_pool (hr.mono (by decide)) (ps_of tk) (pa_cons (pv 0) pa_nil)) (pg_name (i := 1) sc_law.nd rfl (Or.inr rfl)))
      (pss_cons (ps_asg (pe_op (u_add K) pe_int (pe_fn F__law_draw (hr.mono (by decide)) (ps_of tk) (pa_cons (pv 1) (pa_cons pe_int pa_nil)))) (pg_name (i := 2) sc_law.nd rfl (Or.inl rfl)))
      (pss_cons (ps_lcV [19] (ps_setLc (i := 3) (own := [("_law_k", 19)])  (by rfl) sc_law.nd rfl rfl (sw_true rfl rfl rfl (by decide +kernel)) (pi_range1 (by rfl) T.b_range (pa_cons (pv 2) pa_nil)) (blkOk_by (own := [("_law_k", 19)]) (N := ["_law_script", "_law_pool_here", "_law_count", "_law_a", "_law_b", "_law_c", "_law_size", "_law_d", "_law_one", "_law_other", "_law_third", "_law_unlike", "_law_plain", "_law_sizes", "_law_fifth", "_law_sixth", "_law_turn", "_law_way", "_law_many", "_law_k", "_law_number_here"]) (sc := defScope s_law) (by decide +kernel)) (fun _ _ _ _ _ => (pg_name (i := 19) sc_law.nd rfl (Or.inl rfl))) (fun _ _ _ _ _ => pts_nil) (fun _ _ _ _ _ => (pe_fn F__law_signed (hr.mono (by decide)) ps0 (pa_cons (pv 1) (pa_cons pe_int pa_nil))))))
      (pss_cons (ps_lcV [20] (ps_setLc (i := 4) (own := [("_law_number_here", 20)])  (by rfl) sc_law.nd rfl rfl (sw_true rfl rfl rfl (by decide +kernel)) (pi_listK K (pi_list (pv 3))) (blkOk_by (own := [("_law_number_here", 20)]) (N := ["_law_script", "_law_pool_here", "_law_count", "_law_a", "_law_b", "_law_c", "_law_size", "_law_d", "_law_one", "_law_other", "_law_third", "_law_unlike", "_law_plain", "_law_sizes", "_law_fifth", "_law_sixth", "_law_turn", "_law_way", "_law_many", "_law_k", "_law_number_here"]) (sc := defScope s_law) (by decide +kernel)) (fun _ _ _ _ _ => (pg_name (i := 20) sc_law.nd rfl (Or.inl rfl))) (fun _ _ _ _ _ => pts_nil) (fun _ _ _ _ _ => (pe_fn F__law_near (hr.mono (by decide)) ps0 (pa_cons (pv 1) (pa_cons (pv 20) pa_nil))))))
      (pss_cons (ps_lcV [20] (ps_setLc (i := 5) (own := [("_law_number_here", 20)])  (by rfl) sc_law.nd rfl rfl (sw_true rfl rfl rfl (by decide +kernel)) (pi_listK K (pi_list (pv 3))) (blkOk_by (own := [("_law_number_here", 20)]) (N := ["_law_script", "_law_pool_here", "_law_count", "_law_a", "_law_b", "_law_c", "_law_size", "_law_d", "_law_one", "_law_other", "_law_third", "_law_unlike", "_law_plain", "_law_sizes", "_law_fifth", "_law_sixth", "_law_turn", "_law_way", "_law_many", "_law_k", "_law_number_here"]) (sc := defScope s_law) (by decide +kernel)) (fun _ _ _ _ _ => (pg_name (i := 20) sc_law.nd rfl (Or.inl rfl))) (fun _ _ _ _ _ => pts_nil) (fun _ _ _ _ _ => (pe_fn F__law_near (hr.mono (by decide)) ps0 (pa_cons (pv 1) (pa_cons (pv 20) pa_nil))))))
      (pss_cons (ps_asg (pe_op (u_add K) pe_int (pe_op u_mod (pe_callTy c_int (by rfl) T.b_int (by decide +kernel) (pa_cons (pe_op (u_add K) (pv 2) (pe_fn F__law_draw (hr.mono (by decide)) (ps_of tk) (pa_cons (pv 1) (pa_cons pe_int pa_nil)))) pa_nil)) pe_int)) (pg_name (i := 6) sc_law.nd rfl (Or.inl rfl)))
      (pss_cons (ps_lcV [19] (ps_setLc (i := 7) (own := [("_law_k", 19)])  (by rfl) sc_law.nd rfl rfl (sw_true rfl rfl rfl (by decide +kernel)) (pi_range1 (by rfl) T.b_range (pa_cons (pv 6) pa_nil)) (blkOk_by (own := [("_law_k", 19)]) (N := ["_law_script", "_law_pool_here", "_law_count", "_law_a", "_law_b", "_law_c", "_law_size", "_law_d", "_law_one", "_law_other", "_law_third", "_law_unlike", "_law_plain", "_law_sizes", "_law_fifth", "_law_sixth", "_law_turn", "_law_way", "_law_many", "_law_k", "_law_number_here"]) (sc := defScope s_law) (by decide +kernel)) (fun _ _ _ _ _ => (pg_name (i := 19) sc_law.nd rfl (Or.inl rfl))) (fun _ _ _ _ _ => pts_nil) (fun _ _ _ _ _ => (pe_fn F__law_signed (hr.mono (by decide)) ps0 (pa_cons (pv 1) (pa_cons pe_int pa_nil))))))
      (pss_cons (ps_asg (pe_fn F__law_row (hr.mono (by decide)) (ps_of tk) (pa_cons (pv 3) pa_nil)) (pg_name (i := 8) sc_law.nd rfl (Or.inl rfl)))
      (pss_cons (ps_asg (pe_fn F__law_row (hr.mono (by decide)) (ps_of tk) (pa_cons (pv 4) pa_nil)) (pg_name (i := 9) sc_law.nd rfl (Or.inl rfl)))
      (pss_cons (ps_asg (pe_fn F__law_row (hr.mono (by decide)) (ps_of tk) (pa_cons (pv 5) pa_nil)) (pg_name (i := 10) sc_law.nd rfl (Or.inl rfl)))
      (pss_cons (ps_asg (pe_fn F__law_row (hr.mono (by decide)) (ps_of tk) (pa_cons (pv 7) pa_nil)) (pg_name (i := 11) sc_law.nd rfl (Or.inl rfl)))
      (pss_cons (ps_lcV [20] (ps_setLc (i := 12) (own := [("_law_number_here", 20)])  (by rfl) sc_law.nd rfl rfl (sw_true rfl rfl rfl (by decide +kernel)) (pi_listK K (pi_list (pv 3))) (blkOk_by (own := [("_law_number_here", 20)]) (N := ["_law_script", "_law_pool_here", "_law_count", "_law_a", "_law_b", "_law_c", "_law_size", "_law_d", "_law_one", "_law_other", "_law_third", "_law_unlike", "_law_plain", "_law_sizes", "_law_fifth", "_law_sixth", "_law_turn", "_law_way", "_law_many", "_law_k", "_law_number_here"]) (sc := defScope s_law) (by decide +kernel)) (fun _ _ _ _ _ => (pg_name (i := 20) sc_law.nd rfl (Or.inl rfl))) (fun _ _ _ _ _ => pts_nil) (fun _ _ _ _ _ => (pe_callB c_abs (by rfl) T.b_abs (by decide +kernel) (pa_cons (pv 20) pa_nil)))))
      (pss_cons (ps_lcV [20] (ps_setLc (i := 13) (own := [("_law_number_here", 20)])  (by rfl) sc_law.nd rfl rfl (sw_true rfl rfl rfl (by decide +kernel)) (pi_listK K (pi_list (pv 7))) (blkOk_by (own := [("_law_number_here", 20)]) (N := ["_law_script", "_law_pool_here", "_law_count", "_law_a", "_law_b", "_law_c", "_law_size", "_law_d", "_law_one", "_law_other", "_law_third", "_law_unlike", "_law_plain", "_law_sizes", "_law_fifth", "_law_sixth", "_law_turn", "_law_way", "_law_many", "_law_k", "_law_number_here"]) (sc := defScope s_law) (by decide +kernel)) (fun _ _ _ _ _ => (pg_name (i := 20) sc_law.nd rfl (Or.inl rfl))) (fun _ _ _ _ _ => pts_nil) (fun _ _ _ _ _ => (pe_callB c_abs (by rfl) T.b_abs (by decide +kernel) (pa_cons (pv 20) pa_nil)))))
      (pss_cons (ps_asg (pe_fn F__law_row (hr.mono (by decide)) (ps_of tk) (pa_cons (pv 12) pa_nil)) (pg_name (i := 14) sc_law.nd rfl (Or.inl rfl)))
      (pss_cons (ps_asg (pe_fn F__law_row (hr.mono (by decide)) (ps_of tk) (pa_cons (pv 13) pa_nil)) (pg_name (i := 15) sc_law.nd rfl (Or.inl rfl)))
      (pss_cons (ps_for (passes_of rfl) rfl (pi_range1 (by rfl) T.b_range (pa_cons pe_int pa_nil)) (pg_name (i := 16) sc_law.nd rfl (Or.inl rfl))
      (pss_cons (ps_if (PW.pt (pw_or (pt_not (pt_tru K (pe_fn F__law_is (hr.mono (by decide)) (ps_of tk) (pa_cons (pv 8) (pa_cons (pv 3) pa_nil))) (by intro _; rfl))) (pw_or (pt_not (pt_tru K (pe_fn F__law_is (hr.mono (by decide)) (ps_of tk) (pa_cons (pv 9) (pa_cons (pv 4) pa_nil))) (by intro _; rfl))) (pw_or (pt_not (pt_tru K (pe_fn F__law_is (hr.mono (by decide)) (ps_of tk) (pa_cons (pv 10) (pa_cons (pv 5) pa_nil))) (by intro _; rfl))) (pw_or1 (pt_not (pt_tru K (pe_fn F__law_is (hr.mono (by decide)) (ps_of tk) (pa_cons (pv 11) (pa_cons (pv 7) pa_nil))) (by intro _; rfl))))))))
      (pss_one (ps_ret pe_bl))
      pss_nil)
      (pss_cons (ps_if (PW.pt (pw_or (pt_not (pt_tru K (pe_fn F__law_pair (hr.mono (by decide)) (ps_of tk) (pa_cons (pv 8) (pa_cons (pv 3) (pa_cons (pv 9) (pa_cons (pv 4) (pa_cons (pv 10) (pa_cons (pv 5) pa_nil))))))) (by intro _; rfl))) (pw_or1 (pt_not (pt_tru K (pe_fn F__law_pair (hr.mono (by decide)) (ps_of tk) (pa_cons (pv 9) (pa_cons (pv 4) (pa_cons (pv 8) (pa_cons (pv 3) (pa_cons (pv 10) (pa_cons (pv 5) pa_nil))))))) (by intro _; rfl))))))
      (pss_one (ps_ret pe_bl))
      pss_nil)
      (pss_cons (ps_if (PW.pt (pw_or (pt_not (pt_tru K (pe_fn F__law_pair (hr.mono (by decide)) (ps_of tk) (pa_cons (pv 10) (pa_cons (pv 5) (pa_cons (pv 8) (pa_cons (pv 3) (pa_cons (pv 8) (pa_cons (pv 3) pa_nil))))))) (by intro _; rfl))) (pw_or (pt_not (pt_cmpS (op_ownEq S_Amounts___eq__ (hr.mono (by decide)) (ps_of tk)) (pv 8) (pe_fn F__law_row (hr.mono (by decide)) (ps_of tk) (pa_cons (pv 3) pa_nil)) (nomark _))) (pw_or (pt_cmpS (op_ownEq S_Amounts___eq__ (hr.mono (by decide)) (ps_of tk)) (pv 8) (pv 11) (nomark _)) (pw_or1 (pt_cmpS (op_ownEq S_Amounts___eq__ (hr.mono (by decide)) (ps_of tk)) (pv 11) (pv 8) (nomark _)))))))
      (pss_one (ps_ret pe_bl))
      pss_nil)
      (pss_cons (ps_for (passes_of rfl) rfl (pi_range1 (by rfl) T.b_range (pa_cons pe_int pa_nil)) (pg_name (i := 17) sc_law.nd rfl (Or.inl rfl))
      (pss_one (ps_if (PW.pt (pw_or (pt_cmpR (u_ne K hr.units) (pe_fn F__law_subject (hr.mono (by decide)) (ps_of tk) (pa_cons (pv 8) (pa_cons (pv 11) (pa_cons (pv 17) pa_nil)))) (pe_lst (pa_cons (pe_callTy (c_tuple K) (by rfl) T.b_tuple (by decide +kernel) (pa_cons (pv 7) pa_nil)) pa_nil)) (nomark _)) (pw_or1 (pt_cmpR (u_ne K hr.units) (pe_fn F__law_subject (hr.mono (by decide)) (ps_of tk) (pa_cons (pv 11) (pa_cons (pv 8) (pa_cons (pv 17) pa_nil)))) (pe_lst (pa_cons (pe_callTy (c_tuple K) (by rfl) T.b_tuple (by decide +kernel) (pa_cons (pv 3) pa_nil)) pa_nil)) (nomark _)))))
      (pss_one (ps_ret pe_bl))
      pss_nil)))
      (pss_cons (ps_for (passes_of rfl) rfl (pi_range2 (by rfl) T.b_range (pa_cons pe_int (pa_cons pe_int pa_nil))) (pg_name (i := 17) sc_law.nd rfl (Or.inl rfl))
      (pss_one (ps_if (pt_cmpR (u_ne K hr.units) (pe_fn F__law_subject (hr.mono (by decide)) (ps_of tk) (pa_cons (pv 14) (pa_cons (pv 15) (pa_cons (pv 17) pa_nil)))) (pe_lst (pa_cons (pe_callTy (c_tuple K) (by rfl) T.b_tuple (by decide +kernel) (pa_cons (pv 13) pa_nil)) pa_nil)) (nomark _))
      (pss_one (ps_ret pe_bl))
      pss_nil)))
      (pss_one (ps_for (passes_of rfl) rfl (pi_tupK K (pi_tup (pe_tup (pa_cons pe_int (pa_cons pe_int (pa_cons pe_int pa_nil)))))) (pg_name (i := 18) sc_law.nd rfl (Or.inl rfl))
      (pss_one (ps_if (pt_not (pt_tru K (pe_fn F__law_counted (hr.mono (by decide)) (ps_of tk) (pa_cons (pe_slice (u_sl K) (pe_op (u_add K) (pe_op (u_add K) (pe_op (u_add K) (pe_op (u_add K) (pe_op (u_add K) (pv 3) (pv 4)) (pv 5)) (pv 7)) (pv 7)) (pv 7)) po_none (po_some pe_int)) (pa_cons (pv 18) pa_nil))) (by intro _; rfl)))
      (pss_one (ps_ret pe_bl))
      pss_nil))))))))))
      (pss_one (ps_ret (pe_and (pe_fn F__law_is (hr.mono (by decide)) (ps_of tk) (pa_cons (pv 14) (pa_cons (pv 12) pa_nil))) (pe_one (pe_fn F__law_is (hr.mono (by decide)) (ps_of tk) (pa_cons (pv 15) (pa_cons (pv 13) pa_nil))))))))))))))))))))))), ?_⟩
  try dsimp only [L2H.cxH, cxOf, Cx.suite, Cx.tr, List.map_cons, List.map_nil]
  refine run_start (σ := [some (.ref a), none, none, none, none, none, none, none, none, none, none, none, none, none, none, none, none, none, none, none, none]) rfl ?_
  clear tk
  reads_via
  refine call_pool hS hn hb fun p H1 np e1 p1 => ?_
  reads_via
  refine call_draw p1 (by decide) (by decide) fun r H2 r0 r1 b2 p2 => ?_
  obtain ⟨n, hc, hc1, hc3⟩ : ∃ n : Nat, 1 + r = (n : Int) ∧ 1 ≤ n ∧ n ≤ 3 := ⟨(1 + r).toNat, by omega, by omega, by omega⟩
  reads_via
  rw [hc]
  refine r_rng1 (by omega) (by omega) ?_
  rw [Int.toNat_natCast]
  refine lcPool walk_range (by omega) p2 (fun i y => ∃ z, y = .int z ∧ (-(1000 ^ 10) < z ∧ z < 1000 ^ 10)) (fun _ _ => trivial) (fun _ _ _ _ h => h.1) (fun i x H1 k hi b1 p1 hy hk => ?_) fun qx ys H3 nD b3 p3 h3 hl3 hr3 => ?_
  · obtain ⟨_, rfl⟩ := hy
    reads_via
    refine ⟨rfl, p, 10, rfl, p1, by decide, by decide, fun r2 H2 h3 h4 e2 p2 => ?_⟩
    exact hk _ _ e2 p2 ⟨_, rfl, h3, h4⟩
  obtain ⟨nx, rfl, hbnx⟩ := ints_of hr3
  rw [List.length_map] at hl3
  have nqx := p2.ne nD
  reads_via
  refine lcPool (walk_list (xs := nx.map V.int)) (by simp; omega) p3 (fun i y => ∃ z, y = .int z ∧ (-(1000 ^ 10) < z ∧ z < 1000 ^ 10)) (fun H1 b1 => SqL.of (b1.look nqx (by got_up))) (fun _ _ _ _ h => h.1) (fun i x H1 k hi b1 p1 hy hk => ?_) fun qy ys H4 nD b4 p4 h4 hl4 hr4 => ?_
  · obtain ⟨z, hz, rfl⟩ := map_at hy.2
    obtain ⟨z0, z1⟩ := hbnx z (List.mem_of_getElem? hz)
    reads_via
    refine ⟨rfl, p, z, rfl, p1, z0, z1, fun r2 H2 h3 h4 e2 p2 => ?_⟩
    exact hk _ _ e2 p2 ⟨_, rfl, h3, h4⟩
  obtain ⟨ny, rfl, hbny⟩ := ints_of hr4
  rw [List.length_map, List.length_map] at hl4
  have nqy := p3.ne nD
  replace h3 := b4.look nqx h3
  reads_via
  refine lcPool (walk_list (xs := nx.map V.int)) (by simp; omega) p4 (fun i y => ∃ z, y = .int z ∧ (-(1000 ^ 10) < z ∧ z < 1000 ^ 10)) (fun H1 b1 => SqL.of (b1.look nqx (by got_up))) (fun _ _ _ _ h => h.1) (fun i x H1 k hi b1 p1 hy hk => ?_) fun qz ys H5 nD b5 p5 h5 hl5 hr5 => ?_
  · obtain ⟨z, hz, rfl⟩ := map_at hy.2
    obtain ⟨z0, z1⟩ := hbnx z (List.mem_of_getElem? hz)
    reads_via
    refine ⟨rfl, p, z, rfl, p1, z0, z1, fun r2 H2 h3 h4 e2 p2 => ?_⟩
    exact hk _ _ e2 p2 ⟨_, rfl, h3, h4⟩
  obtain ⟨nz, rfl, hbnz⟩ := ints_of hr5
  rw [List.length_map, List.length_map] at hl5
  have nqz := p4.ne nD
  replace h3 := b5.look nqx h3
  replace h4 := b5.look nqy h4
  reads_via
  refine call_draw p5 (by decide) (by decide) fun r2 H6 r3 r4 b6 p6 => ?_
  replace h3 := b6.look nqx h3
  replace h4 := b6.look nqy h4
  replace h5 := b6.look nqz h5
  obtain ⟨m, hm, hm1, hm3, hmn⟩ : ∃ m : Nat, 1 + ((n : Int) + r2) % 3 = (m : Int) ∧ 1 ≤ m ∧ m ≤ 3 ∧ m ≠ n := ⟨(1 + ((n : Int) + r2) % 3).toNat, by omega, by omega, by omega, by omega⟩
  reads_via
  rw [hm]
  refine r_rng1 (by omega) (by omega) ?_
  rw [Int.toNat_natCast]
  refine lcPool walk_range (by omega) p6 (fun i y => ∃ z, y = .int z ∧ (-(1000 ^ 10) < z ∧ z < 1000 ^ 10)) (fun _ _ => trivial) (fun _ _ _ _ h => h.1) (fun i x H1 k hi b1 p1 hy hk => ?_) fun qd ys H7 nD b7 p7 h7 hl7 hr7 => ?_
  · obtain ⟨_, rfl⟩ := hy
    reads_via
    refine ⟨rfl, p, 10, rfl, p1, by decide, by decide, fun r2 H2 h3 h4 e2 p2 => ?_⟩
    exact hk _ _ e2 p2 ⟨_, rfl, h3, h4⟩
  obtain ⟨nd, rfl, hbnd⟩ := ints_of hr7
  rw [List.length_map] at hl7
  have nqd := p6.ne nD
  replace h3 := b7.look nqx h3
  replace h4 := b7.look nqy h4
  replace h5 := b7.look nqz h5
  clear b2 b3 b4 b5 b6 b7 p1 p2 p3 p4 p5 p6 e1 hbny hbnz nqx nqy nqz nqd
  reads_via
  refine ⟨rfl, qx, nx, rfl, by got_up, by omega, by omega, fun x dx ux H8 nx8 e8 hx hux => ?_⟩
  reads_via
  refine ⟨rfl, qy, ny, rfl, by got_up, by omega, by omega, fun y dy uy H9 nx9 e9 hy huy => ?_⟩
  reads_via
  refine ⟨rfl, qz, nz, rfl, by got_up, by omega, by omega, fun z dz uz H10 nx10 e10 hz huz => ?_⟩
  reads_via
  refine ⟨rfl, qd, nd, rfl, by got_up, by omega, by omega, fun d dd ud H11 nx11 e11 hd hud => ?_⟩
  reads_via
  refine lcPL (xs := nx.map V.int) (by got_up) (by simp; omega) (fun i => .int ((fun z => if z < 0 then -z else z) (nx.getD i 0))) (fun i x H2 k hx e2 hk => ?_) fun qf H12 nD e12 hqf => ?_
  · obtain ⟨hi, rfl⟩ := int_at hx
    reads_via
    exact hk _ Ext.rfl
  rw [List.length_map, rng_map fun z => if z < 0 then -z else z] at hqf
  reads_via
  refine lcPL (xs := nd.map V.int) (by got_up) (by simp; omega) (fun i => .int ((fun z => if z < 0 then -z else z) (nd.getD i 0))) (fun i x H2 k hx e2 hk => ?_) fun qs H13 nD e13 hqs => ?_
  · obtain ⟨hi, rfl⟩ := int_at hx
    reads_via
    exact hk _ Ext.rfl
  rw [List.length_map, rng_map fun z => if z < 0 then -z else z] at hqs
  obtain ⟨n5, hn5, hl5⟩ : ∃ n5, nx.map (fun z => if z < 0 then -z else z) = n5 ∧ n5.length = n := ⟨_, rfl, by simp; omega⟩
  obtain ⟨n6, hn6, hl6⟩ : ∃ n6, nd.map (fun z => if z < 0 then -z else z) = n6 ∧ n6.length = m := ⟨_, rfl, by simp; omega⟩
  rw [hn5] at hqf
  rw [hn6] at hqs
  reads_via
  refine ⟨rfl, qf, n5, rfl, by got_up, by omega, by omega, fun f5 df5 uf5 H14 nx14 e14 hf5 huf5 => ?_⟩
  reads_via
  refine ⟨rfl, qs, n6, rfl, by got_up, by omega, by omega, fun f6 df6 uf6 H15 nx15 e15 hf6 huf6 => ?_⟩
  reads_via
  replace hx : H15 x = some (.ins c.Amounts dx (amF ux)) := by with_reducible got_up
  replace hux : H15 ux = some (.tup (nx.map V.int)) := by with_reducible got_up
  replace hy : H15 y = some (.ins c.Amounts dy (amF uy)) := by with_reducible got_up
  replace huy : H15 uy = some (.tup (ny.map V.int)) := by with_reducible got_up
  replace hz : H15 z = some (.ins c.Amounts dz (amF uz)) := by with_reducible got_up
  replace huz : H15 uz = some (.tup (nz.map V.int)) := by with_reducible got_up
  replace hd : H15 d = some (.ins c.Amounts dd (amF ud)) := by with_reducible got_up
  replace hud : H15 ud = some (.tup (nd.map V.int)) := by with_reducible got_up
  replace hf5 : H15 f5 = some (.ins c.Amounts df5 (amF uf5)) := by with_reducible got_up
  replace huf5 : H15 uf5 = some (.tup (n5.map V.int)) := by with_reducible got_up
  replace hqf : H15 qf = some (.lst (n5.map V.int)) := by with_reducible got_up
  replace hqs : H15 qs = some (.lst (n6.map V.int)) := by with_reducible got_up
  have g8 := ((((((e8.trans e9).trans e10).trans e11).trans e12).trans e13).trans e14).trans e15
  replace h3 := g8.look h3
  replace h4 := g8.look h4
  replace h5 := g8.look h5
  replace h7 := g8.look h7
  clear e8 e9 e10 e11 e12 e13 e14 e15 g8 hn5 hn6 nD nx8 nx9 nx10 nx11 nx14 nx15
  refine f_range0 (fun t σ H' => ∃ w1 w2 w3, σ = [some (.ref a), some (.ref p), some (.int (n : Int)), some (.ref qx), some (.ref qy), some (.ref qz), some (.int (m : Int)), some (.ref qd), some (.ref x), some (.ref y), some (.ref z), some (.ref d), some (.ref qf), some (.ref qs), some (.ref f5), some (.ref f6), w1, w2, w3, none, none] ∧ Ext H15 H') ⟨_, _, _, rfl, Ext.rfl⟩ ?_ ?_
  · rintro t σ H16 ht ⟨w1, w2, w3, rfl, e16⟩
    reads_via
    refine ⟨rfl, x, dx, ux, qx, nx, rfl, by got_up, by got_up, by got_up, by omega, by omega, fun H17 f17 => ?_⟩
    reads_via
    refine ⟨rfl, y, dy, uy, qy, ny, rfl, by got_up, by got_up, by got_up, by omega, by omega, fun H18 f18 => ?_⟩
    reads_via
    refine ⟨rfl, z, dz, uz, qz, nz, rfl, by got_up, by got_up, by got_up, by omega, by omega, fun H19 f19 => ?_⟩
    reads_via
    refine ⟨rfl, d, dd, ud, qd, nd, rfl, by got_up, by got_up, by got_up, by omega, by omega, fun H20 f20 => ?_⟩
    reads_via
    have e20 := (((e16.trans f17).trans f18).trans f19).trans f20
    clear e16 f17 f18 f19 f20
    refine ⟨rfl, x, dx, ux, qx, y, dy, uy, qy, z, dz, uz, qz, nx, ny, nz, rfl, by got_up, by got_up, by got_up, by got_up, by got_up, by got_up, by got_up, by got_up, by got_up, by omega, by omega, by omega, by omega, fun H21 f21 => ?_⟩
    reads_via
    refine ⟨rfl, y, dy, uy, qy, x, dx, ux, qx, z, dz, uz, qz, ny, nx, nz, rfl, by got_up, by got_up, by got_up, by got_up, by got_up, by got_up, by got_up, by got_up, by got_up, by omega, by omega, by omega, by omega, fun H22 f22 => ?_⟩
    reads_via
    refine ⟨rfl, z, dz, uz, qz, x, dx, ux, qx, x, dx, ux, qx, nz, nx, nx, rfl, by got_up, by got_up, by got_up, by got_up, by got_up, by got_up, by got_up, by got_up, by got_up, by omega, by omega, by omega, by omega, fun H23 f23 => ?_⟩
    reads_via
    have e23 := ((e20.trans f21).trans f22).trans f23
    clear e20 f21 f22 f23
    refine ⟨rfl, qx, nx, rfl, by got_up, by omega, by omega, fun x2 dx2 ux2 H24 n24 f24 hx2 hux2 => ?_⟩
    reads_via
    refine ⟨rfl, x, dx, ux, x2, dx2, ux2, nx, nx, rfl, by got_up, by got_up, by got_up, by got_up, ?_⟩
    reads_via
    refine ⟨rfl, x, dx, ux, d, dd, ud, nx, nd, rfl, by got_up, by got_up, by got_up, by got_up, ?_⟩
    reads_via
    refine br_no (fun hh => absurd (congrArg List.length hh) (by omega)) ?_
    reads_via
    refine ⟨rfl, d, dd, ud, x, dx, ux, nd, nx, rfl, by got_up, by got_up, by got_up, by got_up, ?_⟩
    reads_via
    refine br_no (fun hh => absurd (congrArg List.length hh) (by omega)) ?_
    reads_via
    have e24 := e23.trans f24
    clear e23 f24 hx2 hux2
    refine f_range0 (fun j σ H' => ∃ w2, σ = [some (.ref a), some (.ref p), some (.int (n : Int)), some (.ref qx), some (.ref qy), some (.ref qz), some (.int (m : Int)), some (.ref qd), some (.ref x), some (.ref y), some (.ref z), some (.ref d), some (.ref qf), some (.ref qs), some (.ref f5), some (.ref f6), some (.int (t : Int)), w2, w3, none, none] ∧ Ext H15 H') ⟨_, rfl, e24⟩ ?_ ?_
    · rintro j σ H2 hj ⟨w2, rfl, e2⟩
      reads_via
      refine ⟨rfl, x, dx, ux, d, dd, ud, nx, nd, j, rfl, by got_up, by got_up, by got_up, by got_up, by omega, by omega, by omega, by omega, by omega, fun l1 H3 e3 hl1 => ?_⟩
      reads_via
      rename_i t1 H4 nt1 e4 ht1 t2 H5 nt2 e5 ht2
      refine v_neL1T (ms := nd) (ns := nd) (by got_up) (by got_up) (by got_up) (by got_up) ?_
      have e35 := ((e2.trans e3).trans e4).trans e5
      clear e2 e3 e4 e5 hl1 ht1 ht2
      reads_via
      refine ⟨rfl, d, dd, ud, x, dx, ux, nd, nx, j, rfl, by got_up, by got_up, by got_up, by got_up, by omega, by omega, by omega, by omega, by omega, fun l1 H3 e3 hl1 => ?_⟩
      reads_via
      rename_i t1 H6 nt1 e6 ht1 t2 H7 nt2 e7 ht2
      refine v_neL1T (ms := nx) (ns := nx) (by got_up) (by got_up) (by got_up) (by got_up) ?_
      reads_via
      exact ⟨_, rfl, ((e35.trans e3).trans e6).trans e7⟩
    rintro σ H25 ⟨w2, rfl, e25⟩
    reads_via
    refine r_rng2 (by decide) (by decide) (by decide) (by decide) ?_
    refine f_range (fun j σ H' => ∃ w2, σ = [some (.ref a), some (.ref p), some (.int (n : Int)), some (.ref qx), some (.ref qy), some (.ref qz), some (.int (m : Int)), some (.ref qd), some (.ref x), some (.ref y), some (.ref z), some (.ref d), some (.ref qf), some (.ref qs), some (.ref f5), some (.ref f6), some (.int (t : Int)), w2, w3, none, none] ∧ Ext H15 H') ⟨_, rfl, e25⟩ ?_ ?_
    · rintro j σ H2 hj ⟨w2, rfl, e2⟩
      rw [show (5 : Int) + (j : Int) = ((5 + j : Nat) : Int) by omega]
      have hj2 : 5 + j < 7 := by
        have : j < 2 := hj
        omega
      reads_via
      refine ⟨rfl, f5, df5, uf5, f6, df6, uf6, n5, n6, 5 + j, rfl, by got_up, by got_up, by got_up, by got_up, by omega, by omega, by omega, by omega, hj2, fun l1 H3 e3 hl1 => ?_⟩
      reads_via
      rename_i t1 H4 nt1 e4 ht1 t2 H5 nt2 e5 ht2
      refine v_neL1T (ms := n6) (ns := n6) (by got_up) (by got_up) (by got_up) (by got_up) ?_
      reads_via
      exact ⟨_, rfl, ((e2.trans e3).trans e4).trans e5⟩
    rintro σ H26 ⟨w2, rfl, e26⟩
    reads_via
    rename_i tt H27 ntt e27 htt
    have e28 := e26.trans e27
    clear e25 e26 e27 e24
    refine f_tup (xs := [.int 0, .int 4, .int 5]) (fun j σ H' => ∃ w3, σ = [some (.ref a), some (.ref p), some (.int (n : Int)), some (.ref qx), some (.ref qy), some (.ref qz), some (.int (m : Int)), some (.ref qd), some (.ref x), some (.ref y), some (.ref z), some (.ref d), some (.ref qf), some (.ref qs), some (.ref f5), some (.ref f6), some (.int (t : Int)), w2, w3, none, none] ∧ Ext H15 H' ∧ H' tt = some (.tup [.int 0, .int 4, .int 5])) ⟨_, rfl, e28, htt⟩ ?_ ?_ ?_
    · rintro j σ H' hj ⟨w3, rfl, e, h⟩
      exact SqT.of h
    · rintro j v σ H2 hj ⟨w3, rfl, e2, htt2⟩
      obtain ⟨q, hq, rfl⟩ : ∃ q : Nat, (q = 0 ∨ q = 4 ∨ q = 5) ∧ v = .int (q : Int) := by
        match j, hj with
        | 0, hj => exact ⟨0, .inl rfl, (Option.some.inj hj).symm⟩
        | 1, hj => exact ⟨4, .inr (.inl rfl), (Option.some.inj hj).symm⟩
        | 2, hj => exact ⟨5, .inr (.inr rfl), (Option.some.inj hj).symm⟩
        | n + 3, hj => simp at hj
      reads_via
      refine v_addL (by got_up) (by got_up) (by simp; omega) fun l1 H3 nl1 e3 hl1 => ?_
      reads_via
      refine v_addL (by got_up) (by got_up) (by simp; omega) fun l2 H4 nl2 e4 hl2 => ?_
      reads_via
      refine v_addL (by got_up) (by got_up) (by simp; omega) fun l3 H5 nl3 e5 hl3 => ?_
      reads_via
      refine v_addL (by got_up) (by got_up) (by simp; omega) fun l4 H6 nl4 e6 hl4 => ?_
      reads_via
      refine v_addL (by got_up) (by got_up) (by simp; omega) fun l5 H7 nl5 e7 hl5 => ?_
      reads_via
      refine v_slLn (n := 5) (by got_up) fun l6 H8 nl6 e8 hl6 => ?_
      reads_via
      refine ⟨rfl, l6, (nx ++ ny ++ nz ++ nd ++ nd ++ nd).take 5, q, rfl, ?_, by simp; omega, hq, fun H9 e9 => ?_⟩
      · rw [hl6]
        simp only [List.map_take, List.map_append]
      · reads_via
        have e29 := ((((((e2.trans e3).trans e4).trans e5).trans e6).trans e7).trans e8).trans e9
        exact ⟨_, rfl, e29, (((((((e3.trans e4).trans e5).trans e6).trans e7).trans e8).trans e9)).look htt2⟩
    · rintro σ H2 ⟨w3, rfl, e2, _⟩
      exact ⟨_, _, _, rfl, e2⟩
  · rintro σ H16 ⟨w1, w2, w3, rfl, e16⟩
    reads_via
    refine ⟨rfl, f5, df5, uf5, qf, n5, rfl, by got_up, by got_up, by got_up, by omega, by omega, fun H17 e17 => ?_⟩
    reads_via
    refine ⟨rfl, f6, df6, uf6, qs, n6, rfl, by got_up, by got_up, by got_up, by omega, by omega, fun H18 e18 => ?_⟩
    exact k _
end K04
namespace K04
open PySem L2 GG PyProof.Rows
abbrev s_E : Stmt := (inClass (top 1) 0)
theorem all_mk {l : PySem.W.OpenLaw} {w : World} {K : PySem.W.Frag} {h : Heap} {mg : Str → Option Value} {fa : Addr} {A_GangError A_BadShare A_BadAmounts A_BadSpan A_Unknown A_Amounts A_fE : Addr} (X : K.In h) (G : h.Ns mainGlobals mg) (hfa : mg "law" = some (.ref fa))
    {fo_Amounts_mul ro_Amounts_mul : Option Value}
    {fr_Amounts_mul : Addr}
    {oc_E dc_E pm_E cd_E ct_E : Value} {od_E an_E : Option Addr} {sl_E : Array (Option Value)}
    {nm_BadAmounts q_BadAmounts : Str} {N_BadAmounts : Addr} {bs_BadAmounts : List Value} {sn_BadAmounts : List Str} {sub_BadAmounts : List Value} {ab_BadAmounts : Bool} {col_BadAmounts : Option Bool} {dd_BadAmounts : Option Addr} {m0_BadAmounts m1_BadAmounts m2_BadAmounts m3_BadAmounts m5_BadAmounts : Option Value}
    {f__law_draw : Addr} {od__law_draw an__law_draw : Option Addr} {sl__law_draw : Array (Option Value)} {oc__law_draw kV__law_draw dc__law_draw pm__law_draw cd__law_draw ct__law_draw : Value}
    {f__law_pool : Addr} {od__law_pool an__law_pool : Option Addr} {sl__law_pool : Array (Option Value)} {oc__law_pool kV__law_pool dc__law_pool pm__law_pool cd__law_pool ct__law_pool : Value}
    {f_Amounts___init__ : Addr} {od_Amounts___init__ an_Amounts___init__ : Option Addr} {sl_Amounts___init__ : Array (Option Value)} {oc_Amounts___init__ kV_Amounts___init__ dc_Amounts___init__ pm_Amounts___init__ cd_Amounts___init__ ct_Amounts___init__ : Value}
    {f_paired : Addr} {od_paired an_paired : Option Addr} {sl_paired : Array (Option Value)} {oc_paired kV_paired dc_paired pm_paired cd_paired ct_paired : Value}
    {f_Amounts___sub__ : Addr} {od_Amounts___sub__ an_Amounts___sub__ : Option Addr} {sl_Amounts___sub__ : Array (Option Value)} {oc_Amounts___sub__ kV_Amounts___sub__ dc_Amounts___sub__ pm_Amounts___sub__ cd_Amounts___sub__ ct_Amounts___sub__ : Value}
    {f_Amounts___add__ : Addr} {od_Amounts___add__ an_Amounts___add__ : Option Addr} {sl_Amounts___add__ : Array (Option Value)} {oc_Amounts___add__ kV_Amounts___add__ dc_Amounts___add__ pm_Amounts___add__ cd_Amounts___add__ ct_Amounts___add__ : Value}
    {f_Amounts___and__ : Addr} {od_Amounts___and__ an_Amounts___and__ : Option Addr} {sl_Amounts___and__ : Array (Option Value)} {oc_Amounts___and__ kV_Amounts___and__ dc_Amounts___and__ pm_Amounts___and__ cd_Amounts___and__ ct_Amounts___and__ : Value}
    {f_Amounts___or__ : Addr} {od_Amounts___or__ an_Amounts___or__ : Option Addr} {sl_Amounts___or__ : Array (Option Value)} {oc_Amounts___or__ kV_Amounts___or__ dc_Amounts___or__ pm_Amounts___or__ cd_Amounts___or__ ct_Amounts___or__ : Value}
    {f_Amounts___contains__ : Addr} {od_Amounts___contains__ an_Amounts___contains__ : Option Addr} {sl_Amounts___contains__ : Array (Option Value)} {oc_Amounts___contains__ kV_Amounts___contains__ dc_Amounts___contains__ pm_Amounts___contains__ cd_Amounts___contains__ ct_Amounts___contains__ : Value}
    {f_Amounts___mul__ : Addr} {od_Amounts___mul__ an_Amounts___mul__ : Option Addr} {sl_Amounts___mul__ : Array (Option Value)} {oc_Amounts___mul__ kV_Amounts___mul__ dc_Amounts___mul__ pm_Amounts___mul__ cd_Amounts___mul__ ct_Amounts___mul__ : Value}
    {f_Amounts___floordiv__ : Addr} {od_Amounts___floordiv__ an_Amounts___floordiv__ : Option Addr} {sl_Amounts___floordiv__ : Array (Option Value)} {oc_Amounts___floordiv__ kV_Amounts___floordiv__ dc_Amounts___floordiv__ pm_Amounts___floordiv__ cd_Amounts___floordiv__ ct_Amounts___floordiv__ : Value}
    {f_Amounts___mod__ : Addr} {od_Amounts___mod__ an_Amounts___mod__ : Option Addr} {sl_Amounts___mod__ : Array (Option Value)} {oc_Amounts___mod__ kV_Amounts___mod__ dc_Amounts___mod__ pm_Amounts___mod__ cd_Amounts___mod__ ct_Amounts___mod__ : Value}
    {f_Amounts___bool__ : Addr} {od_Amounts___bool__ an_Amounts___bool__ : Option Addr} {sl_Amounts___bool__ : Array (Option Value)} {oc_Amounts___bool__ kV_Amounts___bool__ dc_Amounts___bool__ pm_Amounts___bool__ cd_Amounts___bool__ ct_Amounts___bool__ : Value}
    {f_Amounts___eq__ : Addr} {od_Amounts___eq__ an_Amounts___eq__ : Option Addr} {sl_Amounts___eq__ : Array (Option Value)} {oc_Amounts___eq__ kV_Amounts___eq__ dc_Amounts___eq__ pm_Amounts___eq__ cd_Amounts___eq__ ct_Amounts___eq__ : Value}
    {f_Amounts___getitem__ : Addr} {od_Amounts___getitem__ an_Amounts___getitem__ : Option Addr} {sl_Amounts___getitem__ : Array (Option Value)} {oc_Amounts___getitem__ kV_Amounts___getitem__ dc_Amounts___getitem__ pm_Amounts___getitem__ cd_Amounts___getitem__ ct_Amounts___getitem__ : Value}
    {f_Amounts___len__ : Addr} {od_Amounts___len__ an_Amounts___len__ : Option Addr} {sl_Amounts___len__ : Array (Option Value)} {oc_Amounts___len__ kV_Amounts___len__ dc_Amounts___len__ pm_Amounts___len__ cd_Amounts___len__ ct_Amounts___len__ : Value}
    {f_Amounts___iter__ : Addr} {od_Amounts___iter__ an_Amounts___iter__ : Option Addr} {sl_Amounts___iter__ : Array (Option Value)} {oc_Amounts___iter__ kV_Amounts___iter__ dc_Amounts___iter__ pm_Amounts___iter__ cd_Amounts___iter__ ct_Amounts___iter__ : Value}
    {f__law_number : Addr} {od__law_number an__law_number : Option Addr} {sl__law_number : Array (Option Value)} {oc__law_number kV__law_number dc__law_number pm__law_number cd__law_number ct__law_number : Value}
    {f__law_signed : Addr} {od__law_signed an__law_signed : Option Addr} {sl__law_signed : Array (Option Value)} {oc__law_signed kV__law_signed dc__law_signed pm__law_signed cd__law_signed ct__law_signed : Value}
    {f__law_whole : Addr} {od__law_whole an__law_whole : Option Addr} {sl__law_whole : Array (Option Value)} {oc__law_whole kV__law_whole dc__law_whole pm__law_whole cd__law_whole ct__law_whole : Value}
    {f__law_near : Addr} {od__law_near an__law_near : Option Addr} {sl__law_near : Array (Option Value)} {oc__law_near kV__law_near dc__law_near pm__law_near cd__law_near ct__law_near : Value}
    {f__law_row : Addr} {od__law_row an__law_row : Option Addr} {sl__law_row : Array (Option Value)} {oc__law_row kV__law_row dc__law_row pm__law_row cd__law_row ct__law_row : Value}
    {f__law_within : Addr} {od__law_within an__law_within : Option Addr} {sl__law_within : Array (Option Value)} {oc__law_within kV__law_within dc__law_within pm__law_within cd__law_within ct__law_within : Value}
    {f__law_is : Addr} {od__law_is an__law_is : Option Addr} {sl__law_is : Array (Option Value)} {oc__law_is kV__law_is dc__law_is pm__law_is cd__law_is ct__law_is : Value}
    {f__law_subject : Addr} {od__law_subject an__law_subject : Option Addr} {sl__law_subject : Array (Option Value)} {oc__law_subject kV__law_subject dc__law_subject pm__law_subject cd__law_subject ct__law_subject : Value}
    {f__law_counted : Addr} {od__law_counted an__law_counted : Option Addr} {sl__law_counted : Array (Option Value)} {oc__law_counted kV__law_counted dc__law_counted pm__law_counted cd__law_counted ct__law_counted : Value}
    {f__law_pair : Addr} {od__law_pair an__law_pair : Option Addr} {sl__law_pair : Array (Option Value)} {oc__law_pair kV__law_pair dc__law_pair pm__law_pair cd__law_pair ct__law_pair : Value}
    {f_law : Addr} {od_law an_law : Option Addr} {sl_law : Array (Option Value)} {oc_law kV_law dc_law pm_law cd_law ct_law : Value}
    (z_ValueError : PySem.W.nsIn K mainGlobals "ValueError" = some none)
    (z_len : PySem.W.nsIn K mainGlobals "len" = some none)
    (z_int : PySem.W.nsIn K mainGlobals "int" = some none)
    (z_abs : PySem.W.nsIn K mainGlobals "abs" = some none)
    (z_isinstance : PySem.W.nsIn K mainGlobals "isinstance" = some none)
    (z_bool : PySem.W.nsIn K mainGlobals "bool" = some none)
    (z_range : PySem.W.nsIn K mainGlobals "range" = some none)
    (z_list : PySem.W.nsIn K mainGlobals "list" = some none)
    (z_zip : PySem.W.nsIn K mainGlobals "zip" = some none)
    (z_all : PySem.W.nsIn K mainGlobals "all" = some none)
    (z_any : PySem.W.nsIn K mainGlobals "any" = some none)
    (z_min : PySem.W.nsIn K mainGlobals "min" = some none)
    (z_max : PySem.W.nsIn K mainGlobals "max" = some none)
    (z_tuple : PySem.W.nsIn K mainGlobals "tuple" = some none)
    (z_iter : PySem.W.nsIn K mainGlobals "iter" = some none)
    (a_GangError : PySem.W.nsIn K mainGlobals "GangError" = some (some (.ref A_GangError)))
    (a_BadShare : PySem.W.nsIn K mainGlobals "BadShare" = some (some (.ref A_BadShare)))
    (a_BadAmounts : PySem.W.nsIn K mainGlobals "BadAmounts" = some (some (.ref A_BadAmounts)))
    (a_BadSpan : PySem.W.nsIn K mainGlobals "BadSpan" = some (some (.ref A_BadSpan)))
    (a_Unknown : PySem.W.nsIn K mainGlobals "Unknown" = some (some (.ref A_Unknown)))
    (a_Amounts : PySem.W.nsIn K mainGlobals "Amounts" = some (some (.ref A_Amounts)))
    (hn0 : PySem.W.specialIn K (.builtin "object.__class__") "__get__" = some (some (.builtin "getset_descriptor.__get__")))
    (ht0 : PySem.W.takesIn K (.builtin "object.__class__") = some true)
    (pg_Amounts : PySem.W.plainGet K A_Amounts Str.empty = true)
    (hd_Amounts : PySem.W.hasDictIn K A_Amounts = true)
    (po_Amounts : PySem.W.plainOver K A_Amounts = true)
    (sa_Amounts : PySem.W.findIn K (.ref A_Amounts) "__setattr__" = some (some (.builtin "object.__setattr__")))
    (mk_Amounts : PySem.W.makesIn K A_Amounts = true)
    (kc_Amounts : PySem.W.keepIn K (.ref A_Amounts) = true)
    (sf_Amounts : PySem.W.selfFirst K A_Amounts = true)
    (ha_Amounts : PySem.W.findIn K (.ref A_Amounts) "__class__" = some (some (.builtin "object.__class__")))
    (hm_Amounts : PySem.W.mroIn K A_Amounts (.type "object") = some true)
    (na_Amounts_numbers : PySem.W.findIn K (.ref A_Amounts) "numbers" = some none)
    (r1_Amounts_mul : PySem.W.findIn K (.type "int") "__mul__" = some fo_Amounts_mul)
    (r2_Amounts_mul : PySem.W.findIn K (.type "int") "__rmul__" = some ro_Amounts_mul)
    (r3_Amounts_mul : PySem.W.findIn K (.ref A_Amounts) "__rmul__" = some (some (.ref fr_Amounts_mul)))
    (r4_Amounts_mul : PySem.W.subIn K (.type "int") (.ref A_Amounts) = some false)
    (ei_BadAmounts : PySem.W.findIn K (.ref A_BadAmounts) "__init__" = some (some (.ref A_fE)))
    (l_E : K.lookup A_fE = some ⟨oc_E, od_E, .func (PySem.W.fnOf "__init__" "GangError.__init__" (defArgs s_E) (defBody s_E) (defScope s_E) .none .none dc_E pm_E an_E cd_E ct_E), sl_E⟩)
    (c_E : PySem.W.codeIn K cd_E "GangError.__init__" = true)
    (t_E : PySem.W.typeIn K (.ref A_fE) = some (.type "function"))
    (xL_BadAmounts : K.lookup A_BadAmounts = some (excClassObj nm_BadAmounts q_BadAmounts A_BadAmounts N_BadAmounts bs_BadAmounts [.ref A_GangError, .type "ValueError", .type "Exception", .type "BaseException", .type "object"] true sn_BadAmounts sub_BadAmounts ab_BadAmounts col_BadAmounts dd_BadAmounts m0_BadAmounts m1_BadAmounts m2_BadAmounts m3_BadAmounts m5_BadAmounts "ValueError.__new__"))
    (esa_BadAmounts : PySem.W.findIn K (.ref A_BadAmounts) "__setattr__" = some (some (.builtin "object.__setattr__")))
    (ega_BadAmounts : PySem.W.findIn K (.ref A_BadAmounts) "__getattribute__" = some (some (.builtin "BaseException.__getattribute__")))
    (egg_BadAmounts : PySem.W.findIn K (.ref A_BadAmounts) "__getattr__" = some none)
    (ens_BadAmounts : PySem.W.findIn K (.ref A_BadAmounts) "subject" = some none)
    (ek_BadAmounts : PySem.W.keepIn K (.ref A_BadAmounts) = true)
    (ebe_BadAmounts : PySem.W.subIn K (.ref A_BadAmounts) (.type "BaseException") = some true)
    (ety_BadAmounts : PySem.W.typeIn K (.ref A_BadAmounts) = some (.type "type"))
    (ehd_BadAmounts : PySem.W.hasDictIn K A_BadAmounts = true)
    (eha_BadAmounts : PySem.W.findIn K (.ref A_BadAmounts) "__class__" = some (some (.builtin "object.__class__")))
    (ehm_BadAmounts : PySem.W.mroIn K A_BadAmounts (.type "object") = some true)
    (cb_GangError : PySem.W.subIn K (.ref A_GangError) (.type "BaseException") = some true)
    (ch_GangError : PySem.W.hasDictIn K A_GangError = true)
    (ct_GangError : PySem.W.typeIn K (.ref A_GangError) = some (.type "type"))
    (cs_BadAmounts_GangError : PySem.W.subIn K (.ref A_BadAmounts) (.ref A_GangError) = some true)
    (k_BadAmounts_BadAmounts : PySem.W.kitOne K (.ref A_BadAmounts) (.ref A_BadAmounts) = some true)
    (k_BadAmounts_ValueError : PySem.W.kitOne K (.ref A_BadAmounts) (.type "ValueError") = some true)
    (k_BadAmounts_BadShare : PySem.W.kitOne K (.ref A_BadAmounts) (.ref A_BadShare) = some false)
    (k_BadAmounts_BadSpan : PySem.W.kitOne K (.ref A_BadAmounts) (.ref A_BadSpan) = some false)
    (a__law_draw : PySem.W.nsIn K mainGlobals "_law_draw" = some (some (.ref f__law_draw)))
    (l__law_draw : K.lookup f__law_draw = some ⟨oc__law_draw, od__law_draw, .func (PySem.W.fnOf "_law_draw" "_law_draw" (defArgs s__law_draw) (defBody s__law_draw) (defScope s__law_draw) .none kV__law_draw dc__law_draw pm__law_draw an__law_draw cd__law_draw ct__law_draw), sl__law_draw⟩)
    (c__law_draw : PySem.W.codeIn K cd__law_draw "_law_draw" = true)
    (k__law_draw : PySem.W.keepIn K (.ref f__law_draw) = true)
    (a__law_pool : PySem.W.nsIn K mainGlobals "_law_pool" = some (some (.ref f__law_pool)))
    (l__law_pool : K.lookup f__law_pool = some ⟨oc__law_pool, od__law_pool, .func (PySem.W.fnOf "_law_pool" "_law_pool" (defArgs s__law_pool) (defBody s__law_pool) (defScope s__law_pool) .none kV__law_pool dc__law_pool pm__law_pool an__law_pool cd__law_pool ct__law_pool), sl__law_pool⟩)
    (c__law_pool : PySem.W.codeIn K cd__law_pool "_law_pool" = true)
    (k__law_pool : PySem.W.keepIn K (.ref f__law_pool) = true)
    (a_Amounts___init__ : PySem.W.findIn K (.ref A_Amounts) "__init__" = some (some (.ref f_Amounts___init__)))
    (i_Amounts___init__ : PySem.W.isFn K (.ref f_Amounts___init__) = true)
    (l_Amounts___init__ : K.lookup f_Amounts___init__ = some ⟨oc_Amounts___init__, od_Amounts___init__, .func (PySem.W.fnOf "__init__" "Amounts.__init__" (defArgs s_Amounts___init__) (defBody s_Amounts___init__) (defScope s_Amounts___init__) .none kV_Amounts___init__ dc_Amounts___init__ pm_Amounts___init__ an_Amounts___init__ cd_Amounts___init__ ct_Amounts___init__), sl_Amounts___init__⟩)
    (c_Amounts___init__ : PySem.W.codeIn K cd_Amounts___init__ "Amounts.__init__" = true)
    (k_Amounts___init__ : PySem.W.keepIn K (.ref f_Amounts___init__) = true)
    (a_paired : PySem.W.nsIn K mainGlobals "paired" = some (some (.ref f_paired)))
    (l_paired : K.lookup f_paired = some ⟨oc_paired, od_paired, .func (PySem.W.fnOf "paired" "paired" (defArgs s_paired) (defBody s_paired) (defScope s_paired) .none kV_paired dc_paired pm_paired an_paired cd_paired ct_paired), sl_paired⟩)
    (c_paired : PySem.W.codeIn K cd_paired "paired" = true)
    (k_paired : PySem.W.keepIn K (.ref f_paired) = true)
    (a_Amounts___sub__ : PySem.W.findIn K (.ref A_Amounts) "__sub__" = some (some (.ref f_Amounts___sub__)))
    (i_Amounts___sub__ : PySem.W.isFn K (.ref f_Amounts___sub__) = true)
    (l_Amounts___sub__ : K.lookup f_Amounts___sub__ = some ⟨oc_Amounts___sub__, od_Amounts___sub__, .func (PySem.W.fnOf "__sub__" "Amounts.__sub__" (defArgs s_Amounts___sub__) (defBody s_Amounts___sub__) (defScope s_Amounts___sub__) .none kV_Amounts___sub__ dc_Amounts___sub__ pm_Amounts___sub__ an_Amounts___sub__ cd_Amounts___sub__ ct_Amounts___sub__), sl_Amounts___sub__⟩)
    (c_Amounts___sub__ : PySem.W.codeIn K cd_Amounts___sub__ "Amounts.__sub__" = true)
    (k_Amounts___sub__ : PySem.W.keepIn K (.ref f_Amounts___sub__) = true)
    (a_Amounts___add__ : PySem.W.findIn K (.ref A_Amounts) "__add__" = some (some (.ref f_Amounts___add__)))
    (i_Amounts___add__ : PySem.W.isFn K (.ref f_Amounts___add__) = true)
    (l_Amounts___add__ : K.lookup f_Amounts___add__ = some ⟨oc_Amounts___add__, od_Amounts___add__, .func (PySem.W.fnOf "__add__" "Amounts.__add__" (defArgs s_Amounts___add__) (defBody s_Amounts___add__) (defScope s_Amounts___add__) .none kV_Amounts___add__ dc_Amounts___add__ pm_Amounts___add__ an_Amounts___add__ cd_Amounts___add__ ct_Amounts___add__), sl_Amounts___add__⟩)
    (c_Amounts___add__ : PySem.W.codeIn K cd_Amounts___add__ "Amounts.__add__" = true)
    (k_Amounts___add__ : PySem.W.keepIn K (.ref f_Amounts___add__) = true)
    (a_Amounts___and__ : PySem.W.findIn K (.ref A_Amounts) "__and__" = some (some (.ref f_Amounts___and__)))
    (i_Amounts___and__ : PySem.W.isFn K (.ref f_Amounts___and__) = true)
    (l_Amounts___and__ : K.lookup f_Amounts___and__ = some ⟨oc_Amounts___and__, od_Amounts___and__, .func (PySem.W.fnOf "__and__" "Amounts.__and__" (defArgs s_Amounts___and__) (defBody s_Amounts___and__) (defScope s_Amounts___and__) .none kV_Amounts___and__ dc_Amounts___and__ pm_Amounts___and__ an_Amounts___and__ cd_Amounts___and__ ct_Amounts___and__), sl_Amounts___and__⟩)
    (c_Amounts___and__ : PySem.W.codeIn K cd_Amounts___and__ "Amounts.__and__" = true)
    (k_Amounts___and__ : PySem.W.keepIn K (.ref f_Amounts___and__) = true)
    (a_Amounts___or__ : PySem.W.findIn K (.ref A_Amounts) "__or__" = some (some (.ref f_Amounts___or__)))
    (i_Amounts___or__ : PySem.W.isFn K (.ref f_Amounts___or__) = true)
    (l_Amounts___or__ : K.lookup f_Amounts___or__ = some ⟨oc_Amounts___or__, od_Amounts___or__, .func (PySem.W.fnOf "__or__" "Amounts.__or__" (defArgs s_Amounts___or__) (defBody s_Amounts___or__) (defScope s_Amounts___or__) .none kV_Amounts___or__ dc_Amounts___or__ pm_Amounts___or__ an_Amounts___or__ cd_Amounts___or__ ct_Amounts___or__), sl_Amounts___or__⟩)
    (c_Amounts___or__ : PySem.W.codeIn K cd_Amounts___or__ "Amounts.__or__" = true)
    (k_Amounts___or__ : PySem.W.keepIn K (.ref f_Amounts___or__) = true)
    (a_Amounts___contains__ : PySem.W.findIn K (.ref A_Amounts) "__contains__" = some (some (.ref f_Amounts___contains__)))
    (i_Amounts___contains__ : PySem.W.isFn K (.ref f_Amounts___contains__) = true)
    (l_Amounts___contains__ : K.lookup f_Amounts___contains__ = some ⟨oc_Amounts___contains__, od_Amounts___contains__, .func (PySem.W.fnOf "__contains__" "Amounts.__contains__" (defArgs s_Amounts___contains__) (defBody s_Amounts___contains__) (defScope s_Amounts___contains__) .none kV_Amounts___contains__ dc_Amounts___contains__ pm_Amounts___contains__ an_Amounts___contains__ cd_Amounts___contains__ ct_Amounts___contains__), sl_Amounts___contains__⟩)
    (c_Amounts___contains__ : PySem.W.codeIn K cd_Amounts___contains__ "Amounts.__contains__" = true)
    (k_Amounts___contains__ : PySem.W.keepIn K (.ref f_Amounts___contains__) = true)
    (a_Amounts___mul__ : PySem.W.findIn K (.ref A_Amounts) "__mul__" = some (some (.ref f_Amounts___mul__)))
    (i_Amounts___mul__ : PySem.W.isFn K (.ref f_Amounts___mul__) = true)
    (l_Amounts___mul__ : K.lookup f_Amounts___mul__ = some ⟨oc_Amounts___mul__, od_Amounts___mul__, .func (PySem.W.fnOf "__mul__" "Amounts.__mul__" (defArgs s_Amounts___mul__) (defBody s_Amounts___mul__) (defScope s_Amounts___mul__) .none kV_Amounts___mul__ dc_Amounts___mul__ pm_Amounts___mul__ an_Amounts___mul__ cd_Amounts___mul__ ct_Amounts___mul__), sl_Amounts___mul__⟩)
    (c_Amounts___mul__ : PySem.W.codeIn K cd_Amounts___mul__ "Amounts.__mul__" = true)
    (k_Amounts___mul__ : PySem.W.keepIn K (.ref f_Amounts___mul__) = true)
    (a_Amounts___floordiv__ : PySem.W.findIn K (.ref A_Amounts) "__floordiv__" = some (some (.ref f_Amounts___floordiv__)))
    (i_Amounts___floordiv__ : PySem.W.isFn K (.ref f_Amounts___floordiv__) = true)
    (l_Amounts___floordiv__ : K.lookup f_Amounts___floordiv__ = some ⟨oc_Amounts___floordiv__, od_Amounts___floordiv__, .func (PySem.W.fnOf "__floordiv__" "Amounts.__floordiv__" (defArgs s_Amounts___floordiv__) (defBody s_Amounts___floordiv__) (defScope s_Amounts___floordiv__) .none kV_Amounts___floordiv__ dc_Amounts___floordiv__ pm_Amounts___floordiv__ an_Amounts___floordiv__ cd_Amounts___floordiv__ ct_Amounts___floordiv__), sl_Amounts___floordiv__⟩)
    (c_Amounts___floordiv__ : PySem.W.codeIn K cd_Amounts___floordiv__ "Amounts.__floordiv__" = true)
    (k_Amounts___floordiv__ : PySem.W.keepIn K (.ref f_Amounts___floordiv__) = true)
    (a_Amounts___mod__ : PySem.W.findIn K (.ref A_Amounts) "__mod__" = some (some (.ref f_Amounts___mod__)))
    (i_Amounts___mod__ : PySem.W.isFn K (.ref f_Amounts___mod__) = true)
    (l_Amounts___mod__ : K.lookup f_Amounts___mod__ = some ⟨oc_Amounts___mod__, od_Amounts___mod__, .func (PySem.W.fnOf "__mod__" "Amounts.__mod__" (defArgs s_Amounts___mod__) (defBody s_Amounts___mod__) (defScope s_Amounts___mod__) .none kV_Amounts___mod__ dc_Amounts___mod__ pm_Amounts___mod__ an_Amounts___mod__ cd_Amounts___mod__ ct_Amounts___mod__), sl_Amounts___mod__⟩)
    (c_Amounts___mod__ : PySem.W.codeIn K cd_Amounts___mod__ "Amounts.__mod__" = true)
    (k_Amounts___mod__ : PySem.W.keepIn K (.ref f_Amounts___mod__) = true)
    (a_Amounts___bool__ : PySem.W.findIn K (.ref A_Amounts) "__bool__" = some (some (.ref f_Amounts___bool__)))
    (i_Amounts___bool__ : PySem.W.isFn K (.ref f_Amounts___bool__) = true)
    (l_Amounts___bool__ : K.lookup f_Amounts___bool__ = some ⟨oc_Amounts___bool__, od_Amounts___bool__, .func (PySem.W.fnOf "__bool__" "Amounts.__bool__" (defArgs s_Amounts___bool__) (defBody s_Amounts___bool__) (defScope s_Amounts___bool__) .none kV_Amounts___bool__ dc_Amounts___bool__ pm_Amounts___bool__ an_Amounts___bool__ cd_Amounts___bool__ ct_Amounts___bool__), sl_Amounts___bool__⟩)
    (c_Amounts___bool__ : PySem.W.codeIn K cd_Amounts___bool__ "Amounts.__bool__" = true)
    (k_Amounts___bool__ : PySem.W.keepIn K (.ref f_Amounts___bool__) = true)
    (a_Amounts___eq__ : PySem.W.findIn K (.ref A_Amounts) "__eq__" = some (some (.ref f_Amounts___eq__)))
    (i_Amounts___eq__ : PySem.W.isFn K (.ref f_Amounts___eq__) = true)
    (l_Amounts___eq__ : K.lookup f_Amounts___eq__ = some ⟨oc_Amounts___eq__, od_Amounts___eq__, .func (PySem.W.fnOf "__eq__" "Amounts.__eq__" (defArgs s_Amounts___eq__) (defBody s_Amounts___eq__) (defScope s_Amounts___eq__) .none kV_Amounts___eq__ dc_Amounts___eq__ pm_Amounts___eq__ an_Amounts___eq__ cd_Amounts___eq__ ct_Amounts___eq__), sl_Amounts___eq__⟩)
    (c_Amounts___eq__ : PySem.W.codeIn K cd_Amounts___eq__ "Amounts.__eq__" = true)
    (k_Amounts___eq__ : PySem.W.keepIn K (.ref f_Amounts___eq__) = true)
    (a_Amounts___getitem__ : PySem.W.findIn K (.ref A_Amounts) "__getitem__" = some (some (.ref f_Amounts___getitem__)))
    (i_Amounts___getitem__ : PySem.W.isFn K (.ref f_Amounts___getitem__) = true)
    (l_Amounts___getitem__ : K.lookup f_Amounts___getitem__ = some ⟨oc_Amounts___getitem__, od_Amounts___getitem__, .func (PySem.W.fnOf "__getitem__" "Amounts.__getitem__" (defArgs s_Amounts___getitem__) (defBody s_Amounts___getitem__) (defScope s_Amounts___getitem__) .none kV_Amounts___getitem__ dc_Amounts___getitem__ pm_Amounts___getitem__ an_Amounts___getitem__ cd_Amounts___getitem__ ct_Amounts___getitem__), sl_Amounts___getitem__⟩)
    (c_Amounts___getitem__ : PySem.W.codeIn K cd_Amounts___getitem__ "Amounts.__getitem__" = true)
    (k_Amounts___getitem__ : PySem.W.keepIn K (.ref f_Amounts___getitem__) = true)
    (a_Amounts___len__ : PySem.W.findIn K (.ref A_Amounts) "__len__" = some (some (.ref f_Amounts___len__)))
    (i_Amounts___len__ : PySem.W.isFn K (.ref f_Amounts___len__) = true)
    (l_Amounts___len__ : K.lookup f_Amounts___len__ = some ⟨oc_Amounts___len__, od_Amounts___len__, .func (PySem.W.fnOf "__len__" "Amounts.__len__" (defArgs s_Amounts___len__) (defBody s_Amounts___len__) (defScope s_Amounts___len__) .none kV_Amounts___len__ dc_Amounts___len__ pm_Amounts___len__ an_Amounts___len__ cd_Amounts___len__ ct_Amounts___len__), sl_Amounts___len__⟩)
    (c_Amounts___len__ : PySem.W.codeIn K cd_Amounts___len__ "Amounts.__len__" = true)
    (k_Amounts___len__ : PySem.W.keepIn K (.ref f_Amounts___len__) = true)
    (a_Amounts___iter__ : PySem.W.findIn K (.ref A_Amounts) "__iter__" = some (some (.ref f_Amounts___iter__)))
    (i_Amounts___iter__ : PySem.W.isFn K (.ref f_Amounts___iter__) = true)
    (l_Amounts___iter__ : K.lookup f_Amounts___iter__ = some ⟨oc_Amounts___iter__, od_Amounts___iter__, .func (PySem.W.fnOf "__iter__" "Amounts.__iter__" (defArgs s_Amounts___iter__) (defBody s_Amounts___iter__) (defScope s_Amounts___iter__) .none kV_Amounts___iter__ dc_Amounts___iter__ pm_Amounts___iter__ an_Amounts___iter__ cd_Amounts___iter__ ct_Amounts___iter__), sl_Amounts___iter__⟩)
    (c_Amounts___iter__ : PySem.W.codeIn K cd_Amounts___iter__ "Amounts.__iter__" = true)
    (k_Amounts___iter__ : PySem.W.keepIn K (.ref f_Amounts___iter__) = true)
    (a__law_number : PySem.W.nsIn K mainGlobals "_law_number" = some (some (.ref f__law_number)))
    (l__law_number : K.lookup f__law_number = some ⟨oc__law_number, od__law_number, .func (PySem.W.fnOf "_law_number" "_law_number" (defArgs s__law_number) (defBody s__law_number) (defScope s__law_number) .none kV__law_number dc__law_number pm__law_number an__law_number cd__law_number ct__law_number), sl__law_number⟩)
    (c__law_number : PySem.W.codeIn K cd__law_number "_law_number" = true)
    (k__law_number : PySem.W.keepIn K (.ref f__law_number) = true)
    (a__law_signed : PySem.W.nsIn K mainGlobals "_law_signed" = some (some (.ref f__law_signed)))
    (l__law_signed : K.lookup f__law_signed = some ⟨oc__law_signed, od__law_signed, .func (PySem.W.fnOf "_law_signed" "_law_signed" (defArgs s__law_signed) (defBody s__law_signed) (defScope s__law_signed) .none kV__law_signed dc__law_signed pm__law_signed an__law_signed cd__law_signed ct__law_signed), sl__law_signed⟩)
    (c__law_signed : PySem.W.codeIn K cd__law_signed "_law_signed" = true)
    (k__law_signed : PySem.W.keepIn K (.ref f__law_signed) = true)
    (a__law_whole : PySem.W.nsIn K mainGlobals "_law_whole" = some (some (.ref f__law_whole)))
    (l__law_whole : K.lookup f__law_whole = some ⟨oc__law_whole, od__law_whole, .func (PySem.W.fnOf "_law_whole" "_law_whole" (defArgs s__law_whole) (defBody s__law_whole) (defScope s__law_whole) .none kV__law_whole dc__law_whole pm__law_whole an__law_whole cd__law_whole ct__law_whole), sl__law_whole⟩)
    (c__law_whole : PySem.W.codeIn K cd__law_whole "_law_whole" = true)
    (k__law_whole : PySem.W.keepIn K (.ref f__law_whole) = true)
    (a__law_near : PySem.W.nsIn K mainGlobals "_law_near" = some (some (.ref f__law_near)))
    (l__law_near : K.lookup f__law_near = some ⟨oc__law_near, od__law_near, .func (PySem.W.fnOf "_law_near" "_law_near" (defArgs s__law_near) (defBody s__law_near) (defScope s__law_near) .none kV__law_near dc__law_near pm__law_near an__law_near cd__law_near ct__law_near), sl__law_near⟩)
    (c__law_near : PySem.W.codeIn K cd__law_near "_law_near" = true)
    (k__law_near : PySem.W.keepIn K (.ref f__law_near) = true)
    (a__law_row : PySem.W.nsIn K mainGlobals "_law_row" = some (some (.ref f__law_row)))
    (l__law_row : K.lookup f__law_row = some ⟨oc__law_row, od__law_row, .func (PySem.W.fnOf "_law_row" "_law_row" (defArgs s__law_row) (defBody s__law_row) (defScope s__law_row) .none kV__law_row dc__law_row pm__law_row an__law_row cd__law_row ct__law_row), sl__law_row⟩)
    (c__law_row : PySem.W.codeIn K cd__law_row "_law_row" = true)
    (k__law_row : PySem.W.keepIn K (.ref f__law_row) = true)
    (a__law_within : PySem.W.nsIn K mainGlobals "_law_within" = some (some (.ref f__law_within)))
    (l__law_within : K.lookup f__law_within = some ⟨oc__law_within, od__law_within, .func (PySem.W.fnOf "_law_within" "_law_within" (defArgs s__law_within) (defBody s__law_within) (defScope s__law_within) .none kV__law_within dc__law_within pm__law_within an__law_within cd__law_within ct__law_within), sl__law_within⟩)
    (c__law_within : PySem.W.codeIn K cd__law_within "_law_within" = true)
    (k__law_within : PySem.W.keepIn K (.ref f__law_within) = true)
    (a__law_is : PySem.W.nsIn K mainGlobals "_law_is" = some (some (.ref f__law_is)))
    (l__law_is : K.lookup f__law_is = some ⟨oc__law_is, od__law_is, .func (PySem.W.fnOf "_law_is" "_law_is" (defArgs s__law_is) (defBody s__law_is) (defScope s__law_is) .none kV__law_is dc__law_is pm__law_is an__law_is cd__law_is ct__law_is), sl__law_is⟩)
    (c__law_is : PySem.W.codeIn K cd__law_is "_law_is" = true)
    (k__law_is : PySem.W.keepIn K (.ref f__law_is) = true)
    (a__law_subject : PySem.W.nsIn K mainGlobals "_law_subject" = some (some (.ref f__law_subject)))
    (l__law_subject : K.lookup f__law_subject = some ⟨oc__law_subject, od__law_subject, .func (PySem.W.fnOf "_law_subject" "_law_subject" (defArgs s__law_subject) (defBody s__law_subject) (defScope s__law_subject) .none kV__law_subject dc__law_subject pm__law_subject an__law_subject cd__law_subject ct__law_subject), sl__law_subject⟩)
    (c__law_subject : PySem.W.codeIn K cd__law_subject "_law_subject" = true)
    (k__law_subject : PySem.W.keepIn K (.ref f__law_subject) = true)
    (a__law_counted : PySem.W.nsIn K mainGlobals "_law_counted" = some (some (.ref f__law_counted)))
    (l__law_counted : K.lookup f__law_counted = some ⟨oc__law_counted, od__law_counted, .func (PySem.W.fnOf "_law_counted" "_law_counted" (defArgs s__law_counted) (defBody s__law_counted) (defScope s__law_counted) .none kV__law_counted dc__law_counted pm__law_counted an__law_counted cd__law_counted ct__law_counted), sl__law_counted⟩)
    (c__law_counted : PySem.W.codeIn K cd__law_counted "_law_counted" = true)
    (k__law_counted : PySem.W.keepIn K (.ref f__law_counted) = true)
    (a__law_pair : PySem.W.nsIn K mainGlobals "_law_pair" = some (some (.ref f__law_pair)))
    (l__law_pair : K.lookup f__law_pair = some ⟨oc__law_pair, od__law_pair, .func (PySem.W.fnOf "_law_pair" "_law_pair" (defArgs s__law_pair) (defBody s__law_pair) (defScope s__law_pair) .none kV__law_pair dc__law_pair pm__law_pair an__law_pair cd__law_pair ct__law_pair), sl__law_pair⟩)
    (c__law_pair : PySem.W.codeIn K cd__law_pair "_law_pair" = true)
    (k__law_pair : PySem.W.keepIn K (.ref f__law_pair) = true)
    (a_law : PySem.W.nsIn K mainGlobals "law" = some (some (.ref f_law)))
    (l_law : K.lookup f_law = some ⟨oc_law, od_law, .func (PySem.W.fnOf "law" "law" (defArgs s_law) (defBody s_law) (defScope s_law) .none kV_law dc_law pm_law an_law cd_law ct_law), sl_law⟩)
    (c_law : PySem.W.codeIn K cd_law "law" = true)
    (k_law : PySem.W.keepIn K (.ref f_law) = true)
    : ∃ fd : FuncData, (∀ (s : Shared) (v : Value), BindsTo s fd ⟨[v], []⟩ [("_law_script", v)]) ∧ ∀ base : Heap, K.In base → base.Ns mainGlobals mg → FnOk l.prog w K mg base (L2N.CX l.prog w) 7 fa fd ["_law_script"] (spLaw K) := by
  have e := hfa.symm.trans (PySem.W.mg_of X G a_law)
  cases e
  let c : Ad := ⟨K, A_GangError, A_BadShare, A_BadAmounts, A_BadSpan, A_Unknown, A_Amounts, A_fE⟩
  have e_BadAmounts : PySem.GErr.ErrTxt K mg "BadAmounts" A_BadAmounts A_fE := { gC := PySem.W.mg_of X G a_BadAmounts, cls := ⟨nm_BadAmounts, q_BadAmounts, N_BadAmounts, bs_BadAmounts, _, sn_BadAmounts, sub_BadAmounts, ab_BadAmounts, col_BadAmounts, dd_BadAmounts, m0_BadAmounts, m1_BadAmounts, m2_BadAmounts, m3_BadAmounts, m5_BadAmounts, xL_BadAmounts, rfl⟩, sa := esa_BadAmounts, ga := ega_BadAmounts, gg := egg_BadAmounts, noN := ens_BadAmounts, iC := ei_BadAmounts, tC := t_E, kC := ek_BadAmounts, exC := ebe_BadAmounts, tyC := ety_BadAmounts, hdC := ehd_BadAmounts, haC := eha_BadAmounts, hnC := hn0, htC := ht0, hmC := ehm_BadAmounts, fn := ⟨_, _, _, _, _, _, _, _, _, _, _, _, _, _, l_E, c_E⟩ }
  have o_Amounts : OwnC K mg "Amounts" A_Amounts := ⟨PySem.W.mg_of X G a_Amounts, ⟨pg_Amounts, hd_Amounts, po_Amounts, sa_Amounts⟩, sf_Amounts, ha_Amounts, hn0, ht0, hm_Amounts, kit_self⟩
  have T : Txt K mg c := { kk := rfl, b_ValueError := PySem.W.mg_none_of X G z_ValueError, b_len := PySem.W.mg_none_of X G z_len, b_int := PySem.W.mg_none_of X G z_int, b_abs := PySem.W.mg_none_of X G z_abs, b_isinstance := PySem.W.mg_none_of X G z_isinstance, b_bool := PySem.W.mg_none_of X G z_bool, b_range := PySem.W.mg_none_of X G z_range, b_list := PySem.W.mg_none_of X G z_list, b_zip := PySem.W.mg_none_of X G z_zip, b_all := PySem.W.mg_none_of X G z_all, b_any := PySem.W.mg_none_of X G z_any, b_min := PySem.W.mg_none_of X G z_min, b_max := PySem.W.mg_none_of X G z_max, b_tuple := PySem.W.mg_none_of X G z_tuple, b_iter := PySem.W.mg_none_of X G z_iter, g_GangError := PySem.W.mg_of X G a_GangError, g_BadShare := PySem.W.mg_of X G a_BadShare, g_BadAmounts := PySem.W.mg_of X G a_BadAmounts, g_BadSpan := PySem.W.mg_of X G a_BadSpan, g_Unknown := PySem.W.mg_of X G a_Unknown, g_Amounts := PySem.W.mg_of X G a_Amounts, o_Amounts := o_Amounts, sf_Amounts := sf_Amounts, na_Amounts_numbers := na_Amounts_numbers, ri_Amounts___mul__ := right_mk (by decide +kernel) (by decide +kernel) r1_Amounts_mul r2_Amounts_mul r3_Amounts_mul (.inr ⟨_, rfl⟩) r4_Amounts_mul, e_BadAmounts := e_BadAmounts, x_BadAmounts_GangError := PySem.W.exm_ref cb_GangError ch_GangError ct_GangError cs_BadAmounts_GangError, k_BadAmounts_BadAmounts := k_BadAmounts_BadAmounts, k_BadAmounts_ValueError := k_BadAmounts_ValueError, k_BadAmounts_BadShare := k_BadAmounts_BadShare, k_BadAmounts_BadSpan := k_BadAmounts_BadSpan, gi_Amounts := ⟨_, a_Amounts___getitem__, by unfold PySem.W.fnIn; rw [l_Amounts___getitem__]⟩ }
  have F_law_draw := fun_mk (st := s__law_draw) l__law_draw c__law_draw k__law_draw
  have b_law_draw := F_law_draw.binds (ps := ["_law_pool_here", "_law_many"]) fun _ _ _ _ _ _ us hl => match us, hl with | [_, _], _ => rfl
  have F_law_pool := fun_mk (st := s__law_pool) l__law_pool c__law_pool k__law_pool
  have b_law_pool := F_law_pool.binds (ps := ["_law_script"]) fun _ _ _ _ _ _ us hl => match us, hl with | [_], _ => rfl
  have FAmounts___init__ := fun_mk (st := s_Amounts___init__) l_Amounts___init__ c_Amounts___init__ k_Amounts___init__
  have Fpaired := fun_mk (st := s_paired) l_paired c_paired k_paired
  have bpaired := Fpaired.binds (ps := ["left", "right"]) fun _ _ _ _ _ _ us hl => match us, hl with | [_, _], _ => rfl
  have FAmounts___sub__ := fun_mk (st := s_Amounts___sub__) l_Amounts___sub__ c_Amounts___sub__ k_Amounts___sub__
  have bAmounts___sub__ := FAmounts___sub__.binds (ps := ["self", "other"]) fun _ _ _ _ _ _ us hl => match us, hl with | [_, _], _ => rfl
  have FAmounts___add__ := fun_mk (st := s_Amounts___add__) l_Amounts___add__ c_Amounts___add__ k_Amounts___add__
  have bAmounts___add__ := FAmounts___add__.binds (ps := ["self", "other"]) fun _ _ _ _ _ _ us hl => match us, hl with | [_, _], _ => rfl
  have FAmounts___and__ := fun_mk (st := s_Amounts___and__) l_Amounts___and__ c_Amounts___and__ k_Amounts___and__
  have bAmounts___and__ := FAmounts___and__.binds (ps := ["self", "other"]) fun _ _ _ _ _ _ us hl => match us, hl with | [_, _], _ => rfl
  have FAmounts___or__ := fun_mk (st := s_Amounts___or__) l_Amounts___or__ c_Amounts___or__ k_Amounts___or__
  have bAmounts___or__ := FAmounts___or__.binds (ps := ["self", "other"]) fun _ _ _ _ _ _ us hl => match us, hl with | [_, _], _ => rfl
  have FAmounts___contains__ := fun_mk (st := s_Amounts___contains__) l_Amounts___contains__ c_Amounts___contains__ k_Amounts___contains__
  have bAmounts___contains__ := FAmounts___contains__.binds (ps := ["self", "row"]) fun _ _ _ _ _ _ us hl => match us, hl with | [_, _], _ => rfl
  have FAmounts___mul__ := fun_mk (st := s_Amounts___mul__) l_Amounts___mul__ c_Amounts___mul__ k_Amounts___mul__
  have bAmounts___mul__ := FAmounts___mul__.binds (ps := ["self", "other"]) fun _ _ _ _ _ _ us hl => match us, hl with | [_, _], _ => rfl
  have FAmounts___floordiv__ := fun_mk (st := s_Amounts___floordiv__) l_Amounts___floordiv__ c_Amounts___floordiv__ k_Amounts___floordiv__
  have bAmounts___floordiv__ := FAmounts___floordiv__.binds (ps := ["self", "other"]) fun _ _ _ _ _ _ us hl => match us, hl with | [_, _], _ => rfl
  have FAmounts___mod__ := fun_mk (st := s_Amounts___mod__) l_Amounts___mod__ c_Amounts___mod__ k_Amounts___mod__
  have bAmounts___mod__ := FAmounts___mod__.binds (ps := ["self", "other"]) fun _ _ _ _ _ _ us hl => match us, hl with | [_, _], _ => rfl
  have FAmounts___bool__ := fun_mk (st := s_Amounts___bool__) l_Amounts___bool__ c_Amounts___bool__ k_Amounts___bool__
  have bAmounts___bool__ := FAmounts___bool__.binds (ps := ["self"]) fun _ _ _ _ _ _ us hl => match us, hl with | [_], _ => rfl
  have FAmounts___eq__ := fun_mk (st := s_Amounts___eq__) l_Amounts___eq__ c_Amounts___eq__ k_Amounts___eq__
  have bAmounts___eq__ := FAmounts___eq__.binds (ps := ["self", "other"]) fun _ _ _ _ _ _ us hl => match us, hl with | [_, _], _ => rfl
  have FAmounts___getitem__ := fun_mk (st := s_Amounts___getitem__) l_Amounts___getitem__ c_Amounts___getitem__ k_Amounts___getitem__
  have bAmounts___getitem__ := FAmounts___getitem__.binds (ps := ["self", "at"]) fun _ _ _ _ _ _ us hl => match us, hl with | [_, _], _ => rfl
  have FAmounts___len__ := fun_mk (st := s_Amounts___len__) l_Amounts___len__ c_Amounts___len__ k_Amounts___len__
  have bAmounts___len__ := FAmounts___len__.binds (ps := ["self"]) fun _ _ _ _ _ _ us hl => match us, hl with | [_], _ => rfl
  have FAmounts___iter__ := fun_mk (st := s_Amounts___iter__) l_Amounts___iter__ c_Amounts___iter__ k_Amounts___iter__
  have bAmounts___iter__ := FAmounts___iter__.binds (ps := ["self"]) fun _ _ _ _ _ _ us hl => match us, hl with | [_], _ => rfl
  have F_law_number := fun_mk (st := s__law_number) l__law_number c__law_number k__law_number
  have b_law_number := F_law_number.binds (ps := ["_law_pool_here", "_law_groups"]) fun _ _ _ _ _ _ us hl => match us, hl with | [_, _], _ => rfl
  have F_law_signed := fun_mk (st := s__law_signed) l__law_signed c__law_signed k__law_signed
  have b_law_signed := F_law_signed.binds (ps := ["_law_pool_here", "_law_groups"]) fun _ _ _ _ _ _ us hl => match us, hl with | [_, _], _ => rfl
  have F_law_whole := fun_mk (st := s__law_whole) l__law_whole c__law_whole k__law_whole
  have b_law_whole := F_law_whole.binds (ps := ["_law_value"]) fun _ _ _ _ _ _ us hl => match us, hl with | [_], _ => rfl
  have F_law_near := fun_mk (st := s__law_near) l__law_near c__law_near k__law_near
  have b_law_near := F_law_near.binds (ps := ["_law_pool_here", "_law_number_here"]) fun _ _ _ _ _ _ us hl => match us, hl with | [_, _], _ => rfl
  have F_law_row := fun_mk (st := s__law_row) l__law_row c__law_row k__law_row
  have b_law_row := F_law_row.binds (ps := ["_law_numbers"]) fun _ _ _ _ _ _ us hl => match us, hl with | [_], _ => rfl
  have F_law_within := fun_mk (st := s__law_within) l__law_within c__law_within k__law_within
  have b_law_within := F_law_within.binds (ps := ["_law_inner", "_law_outer"]) fun _ _ _ _ _ _ us hl => match us, hl with | [_, _], _ => rfl
  have F_law_is := fun_mk (st := s__law_is) l__law_is c__law_is k__law_is
  have b_law_is := F_law_is.binds (ps := ["_law_row_here", "_law_numbers"]) fun _ _ _ _ _ _ us hl => match us, hl with | [_, _], _ => rfl
  have F_law_subject := fun_mk (st := s__law_subject) l__law_subject c__law_subject k__law_subject
  have b_law_subject := F_law_subject.binds (ps := ["_law_one", "_law_other", "_law_way"]) fun _ _ _ _ _ _ us hl => match us, hl with | [_, _, _], _ => rfl
  have F_law_counted := fun_mk (st := s__law_counted) l__law_counted c__law_counted k__law_counted
  have b_law_counted := F_law_counted.binds (ps := ["_law_numbers", "_law_many"]) fun _ _ _ _ _ _ us hl => match us, hl with | [_, _], _ => rfl
  have F_law_pair := fun_mk (st := s__law_pair) l__law_pair c__law_pair k__law_pair
  have b_law_pair := F_law_pair.binds (ps := ["_law_one", "_law_a", "_law_other", "_law_b", "_law_third", "_law_c"]) fun _ _ _ _ _ _ us hl => match us, hl with | [_, _, _, _, _, _], _ => rfl
  have Flaw := fun_mk (st := s_law) l_law c_law k_law
  refine ⟨PySem.W.fnOf "law" "law" (defArgs s_law) (defBody s_law) (defScope s_law) .none kV_law dc_law pm_law an_law cd_law ct_law, fun s v => .of_eq rfl, fun base _ _ => ?_⟩
  have G_law_draw : FnOk l.prog w K mg base (L2N.CX l.prog w) 1 f__law_draw _ ["_law_pool_here", "_law_many"] (sp__law_draw c) := ok__law_draw F_law_draw T 
  have Z__law_draw : Fn l.prog w K mg base "_law_draw" 1 ["_law_pool_here", "_law_many"] [] (sp__law_draw c) := ⟨_, _, _, G_law_draw, PySem.W.mg_of X G a__law_draw, k__law_draw, b_law_draw, .nil⟩
  have G_law_pool : FnOk l.prog w K mg base (L2N.CX l.prog w) 1 f__law_pool _ ["_law_script"] (sp__law_pool c) := ok__law_pool F_law_pool T 
  have Z__law_pool : Fn l.prog w K mg base "_law_pool" 1 ["_law_script"] [] (sp__law_pool c) := ⟨_, _, _, G_law_pool, PySem.W.mg_of X G a__law_pool, k__law_pool, b_law_pool, .nil⟩
  have GAmounts___init__ : FnR l.prog w K mg base (L2N.CX l.prog w) 1 f_Amounts___init__ (star1 (sp_Amounts___init__ c)) := ok_Amounts___init__ FAmounts___init__ T 
  have ZMR_Amounts : McR l.prog w K mg base "Amounts" c.Amounts 1 (sp_Amounts___init__ c) := ⟨_, GAmounts___init__, ⟨mk_Amounts, a_Amounts___init__, i_Amounts___init__, kc_Amounts⟩, PySem.W.mg_of X G a_Amounts⟩
  have Gpaired : FnOk l.prog w K mg base (L2N.CX l.prog w) 1 f_paired _ ["left", "right"] (sp_paired c) := ok_paired Fpaired T 
  have Z_paired : Fn l.prog w K mg base "paired" 1 ["left", "right"] [] (sp_paired c) := ⟨_, _, _, Gpaired, PySem.W.mg_of X G a_paired, k_paired, bpaired, .nil⟩
  have GAmounts___bool__ : FnOk l.prog w K mg base (L2N.CX l.prog w) 1 f_Amounts___bool__ _ ["self"] (sp_Amounts___bool__ c) := ok_Amounts___bool__ FAmounts___bool__ T 
  have ZS_Amounts___bool__ : Sm l.prog w K mg base c.Amounts "__bool__" 1 ["self"] (sp_Amounts___bool__ c) := ⟨_, _, GAmounts___bool__, a_Amounts___bool__, i_Amounts___bool__, bAmounts___bool__⟩
  have GAmounts___eq__ : FnOk l.prog w K mg base (L2N.CX l.prog w) 1 f_Amounts___eq__ _ ["self", "other"] (sp_Amounts___eq__ c) := ok_Amounts___eq__ FAmounts___eq__ T 
  have ZS_Amounts___eq__ : Sm l.prog w K mg base c.Amounts "__eq__" 1 ["self", "other"] (sp_Amounts___eq__ c) := ⟨_, _, GAmounts___eq__, a_Amounts___eq__, i_Amounts___eq__, bAmounts___eq__⟩
  have GAmounts___getitem__ : FnOk l.prog w K mg base (L2N.CX l.prog w) 1 f_Amounts___getitem__ _ ["self", "at"] (sp_Amounts___getitem__ c) := ok_Amounts___getitem__ FAmounts___getitem__ T 
  have ZS_Amounts___getitem__ : Sm l.prog w K mg base c.Amounts "__getitem__" 1 ["self", "at"] (sp_Amounts___getitem__ c) := ⟨_, _, GAmounts___getitem__, a_Amounts___getitem__, i_Amounts___getitem__, bAmounts___getitem__⟩
  have GAmounts___len__ : FnOk l.prog w K mg base (L2N.CX l.prog w) 1 f_Amounts___len__ _ ["self"] (sp_Amounts___len__ c) := ok_Amounts___len__ FAmounts___len__ T 
  have ZS_Amounts___len__ : Sm l.prog w K mg base c.Amounts "__len__" 1 ["self"] (sp_Amounts___len__ c) := ⟨_, _, GAmounts___len__, a_Amounts___len__, i_Amounts___len__, bAmounts___len__⟩
  have GAmounts___iter__ : FnOk l.prog w K mg base (L2N.CX l.prog w) 1 f_Amounts___iter__ _ ["self"] (sp_Amounts___iter__ c) := ok_Amounts___iter__ FAmounts___iter__ T 
  have ZS_Amounts___iter__ : Sm l.prog w K mg base c.Amounts "__iter__" 1 ["self"] (sp_Amounts___iter__ c) := ⟨_, _, GAmounts___iter__, a_Amounts___iter__, i_Amounts___iter__, bAmounts___iter__⟩
  have G_law_whole : FnOk l.prog w K mg base (L2N.CX l.prog w) 1 f__law_whole _ ["_law_value"] (sp__law_whole c) := ok__law_whole F_law_whole T 
  have Z__law_whole : Fn l.prog w K mg base "_law_whole" 1 ["_law_value"] [] (sp__law_whole c) := ⟨_, _, _, G_law_whole, PySem.W.mg_of X G a__law_whole, k__law_whole, b_law_whole, .nil⟩
  have G_law_within : FnOk l.prog w K mg base (L2N.CX l.prog w) 1 f__law_within _ ["_law_inner", "_law_outer"] (sp__law_within c) := ok__law_within F_law_within T 
  have Z__law_within : Fn l.prog w K mg base "_law_within" 1 ["_law_inner", "_law_outer"] [] (sp__law_within c) := ⟨_, _, _, G_law_within, PySem.W.mg_of X G a__law_within, k__law_within, b_law_within, .nil⟩
  have GAmounts___contains__ : FnOk l.prog w K mg base (L2N.CX l.prog w) 2 f_Amounts___contains__ _ ["self", "row"] (sp_Amounts___contains__ c) := ok_Amounts___contains__ FAmounts___contains__ T Z_paired
  have ZS_Amounts___contains__ : Sm l.prog w K mg base c.Amounts "__contains__" 2 ["self", "row"] (sp_Amounts___contains__ c) := ⟨_, _, GAmounts___contains__, a_Amounts___contains__, i_Amounts___contains__, bAmounts___contains__⟩
  have GAmounts___floordiv__ : FnOk l.prog w K mg base (L2N.CX l.prog w) 2 f_Amounts___floordiv__ _ ["self", "other"] (sp_Amounts___floordiv__ c) := ok_Amounts___floordiv__ FAmounts___floordiv__ T Z_paired
  have ZS_Amounts___floordiv__ : Sm l.prog w K mg base c.Amounts "__floordiv__" 2 ["self", "other"] (sp_Amounts___floordiv__ c) := ⟨_, _, GAmounts___floordiv__, a_Amounts___floordiv__, i_Amounts___floordiv__, bAmounts___floordiv__⟩
  have G_law_number : FnOk l.prog w K mg base (L2N.CX l.prog w) 2 f__law_number _ ["_law_pool_here", "_law_groups"] (sp__law_number c) := ok__law_number F_law_number T Z__law_draw
  have Z__law_number : Fn l.prog w K mg base "_law_number" 2 ["_law_pool_here", "_law_groups"] [] (sp__law_number c) := ⟨_, _, _, G_law_number, PySem.W.mg_of X G a__law_number, k__law_number, b_law_number, .nil⟩
  have GAmounts___sub__ : FnOk l.prog w K mg base (L2N.CX l.prog w) 3 f_Amounts___sub__ _ ["self", "other"] (sp_Amounts___sub__ c) := ok_Amounts___sub__ FAmounts___sub__ T Z_paired ZMR_Amounts
  have ZS_Amounts___sub__ : Sm l.prog w K mg base c.Amounts "__sub__" 3 ["self", "other"] (sp_Amounts___sub__ c) := ⟨_, _, GAmounts___sub__, a_Amounts___sub__, i_Amounts___sub__, bAmounts___sub__⟩
  have GAmounts___add__ : FnOk l.prog w K mg base (L2N.CX l.prog w) 3 f_Amounts___add__ _ ["self", "other"] (sp_Amounts___add__ c) := ok_Amounts___add__ FAmounts___add__ T Z_paired ZMR_Amounts
  have ZS_Amounts___add__ : Sm l.prog w K mg base c.Amounts "__add__" 3 ["self", "other"] (sp_Amounts___add__ c) := ⟨_, _, GAmounts___add__, a_Amounts___add__, i_Amounts___add__, bAmounts___add__⟩
  have GAmounts___and__ : FnOk l.prog w K mg base (L2N.CX l.prog w) 3 f_Amounts___and__ _ ["self", "other"] (sp_Amounts___and__ c) := ok_Amounts___and__ FAmounts___and__ T Z_paired ZMR_Amounts
  have ZS_Amounts___and__ : Sm l.prog w K mg base c.Amounts "__and__" 3 ["self", "other"] (sp_Amounts___and__ c) := ⟨_, _, GAmounts___and__, a_Amounts___and__, i_Amounts___and__, bAmounts___and__⟩
  have GAmounts___or__ : FnOk l.prog w K mg base (L2N.CX l.prog w) 3 f_Amounts___or__ _ ["self", "other"] (sp_Amounts___or__ c) := ok_Amounts___or__ FAmounts___or__ T Z_paired ZMR_Amounts
  have ZS_Amounts___or__ : Sm l.prog w K mg base c.Amounts "__or__" 3 ["self", "other"] (sp_Amounts___or__ c) := ⟨_, _, GAmounts___or__, a_Amounts___or__, i_Amounts___or__, bAmounts___or__⟩
  have GAmounts___mul__ : FnOk l.prog w K mg base (L2N.CX l.prog w) 3 f_Amounts___mul__ _ ["self", "other"] (sp_Amounts___mul__ c) := ok_Amounts___mul__ FAmounts___mul__ T ZMR_Amounts
  have ZS_Amounts___mul__ : Sm l.prog w K mg base c.Amounts "__mul__" 3 ["self", "other"] (sp_Amounts___mul__ c) := ⟨_, _, GAmounts___mul__, a_Amounts___mul__, i_Amounts___mul__, bAmounts___mul__⟩
  have G_law_signed : FnOk l.prog w K mg base (L2N.CX l.prog w) 3 f__law_signed _ ["_law_pool_here", "_law_groups"] (sp__law_signed c) := ok__law_signed F_law_signed T Z__law_draw Z__law_number
  have Z__law_signed : Fn l.prog w K mg base "_law_signed" 3 ["_law_pool_here", "_law_groups"] [] (sp__law_signed c) := ⟨_, _, _, G_law_signed, PySem.W.mg_of X G a__law_signed, k__law_signed, b_law_signed, .nil⟩
  have G_law_row : FnOk l.prog w K mg base (L2N.CX l.prog w) 3 f__law_row _ ["_law_numbers"] (sp__law_row c) := ok__law_row F_law_row T ZMR_Amounts
  have Z__law_row : Fn l.prog w K mg base "_law_row" 3 ["_law_numbers"] [] (sp__law_row c) := ⟨_, _, _, G_law_row, PySem.W.mg_of X G a__law_row, k__law_row, b_law_row, .nil⟩
  have G_law_counted : FnOk l.prog w K mg base (L2N.CX l.prog w) 3 f__law_counted _ ["_law_numbers", "_law_many"] (sp__law_counted c) := ok__law_counted F_law_counted T ZMR_Amounts
  have Z__law_counted : Fn l.prog w K mg base "_law_counted" 3 ["_law_numbers", "_law_many"] [] (sp__law_counted c) := ⟨_, _, _, G_law_counted, PySem.W.mg_of X G a__law_counted, k__law_counted, b_law_counted, .nil⟩
  have GAmounts___mod__ : FnOk l.prog w K mg base (L2N.CX l.prog w) 4 f_Amounts___mod__ _ ["self", "other"] (sp_Amounts___mod__ c) := ok_Amounts___mod__ FAmounts___mod__ T ZS_Amounts___sub__ ZS_Amounts___mul__ ZS_Amounts___floordiv__
  have ZS_Amounts___mod__ : Sm l.prog w K mg base c.Amounts "__mod__" 4 ["self", "other"] (sp_Amounts___mod__ c) := ⟨_, _, GAmounts___mod__, a_Amounts___mod__, i_Amounts___mod__, bAmounts___mod__⟩
  have G_law_near : FnOk l.prog w K mg base (L2N.CX l.prog w) 4 f__law_near _ ["_law_pool_here", "_law_number_here"] (sp__law_near c) := ok__law_near F_law_near T Z__law_signed Z__law_draw
  have Z__law_near : Fn l.prog w K mg base "_law_near" 4 ["_law_pool_here", "_law_number_here"] [] (sp__law_near c) := ⟨_, _, _, G_law_near, PySem.W.mg_of X G a__law_near, k__law_near, b_law_near, .nil⟩
  have G_law_is : FnOk l.prog w K mg base (L2N.CX l.prog w) 5 f__law_is _ ["_law_row_here", "_law_numbers"] (sp__law_is c) := ok__law_is F_law_is T Z__law_whole ZS_Amounts___getitem__ ZS_Amounts___bool__ ZS_Amounts___iter__ ZS_Amounts___len__
  have Z__law_is : Fn l.prog w K mg base "_law_is" 5 ["_law_row_here", "_law_numbers"] [] (sp__law_is c) := ⟨_, _, _, G_law_is, PySem.W.mg_of X G a__law_is, k__law_is, b_law_is, .nil⟩
  have G_law_subject : FnOk l.prog w K mg base (L2N.CX l.prog w) 5 f__law_subject _ ["_law_one", "_law_other", "_law_way"] (sp__law_subject c) := ok__law_subject F_law_subject T ZS_Amounts___add__ ZS_Amounts___sub__ ZS_Amounts___and__ ZS_Amounts___or__ ZS_Amounts___contains__ ZS_Amounts___floordiv__ ZS_Amounts___mod__
  have Z__law_subject : Fn l.prog w K mg base "_law_subject" 5 ["_law_one", "_law_other", "_law_way"] [] (sp__law_subject c) := ⟨_, _, _, G_law_subject, PySem.W.mg_of X G a__law_subject, k__law_subject, b_law_subject, .nil⟩
  have G_law_pair : FnOk l.prog w K mg base (L2N.CX l.prog w) 6 f__law_pair _ ["_law_one", "_law_a", "_law_other", "_law_b", "_law_third", "_law_c"] (sp__law_pair c) := ok__law_pair F_law_pair T Z__law_within Z__law_is ZS_Amounts___contains__ ZS_Amounts___or__ ZS_Amounts___and__ ZS_Amounts___eq__
  have Z__law_pair : Fn l.prog w K mg base "_law_pair" 6 ["_law_one", "_law_a", "_law_other", "_law_b", "_law_third", "_law_c"] [] (sp__law_pair c) := ⟨_, _, _, G_law_pair, PySem.W.mg_of X G a__law_pair, k__law_pair, b_law_pair, .nil⟩
  exact ok_law Flaw T Z__law_is Z__law_counted Z__law_subject Z__law_row Z__law_pair Z__law_signed Z__law_draw Z__law_near Z__law_pool ZS_Amounts___eq__
theorem walk {l : PySem.W.OpenLaw} {q : Program} {loose : List Str} {XP : (Str → Option Value) → Heap → Prop} {YP : World → Heap → Prop} {d : DefRec} {K : Params → PySem.W.Frag} (hn : l.most = some 63) (hdf : d.params.defaults = [])
    (hY : ∀ (w : World) (h : Heap), YP w h → (K w.params).In h)
    (F : ∀ (w : World) (mg : Str → Option Value) (fa : Addr) (h : Heap), (K w.params).In h → h.Ns mainGlobals mg → mg d.name = some (.ref fa) →
      ∃ fd : FuncData, (∀ (s : Shared) (u : Value), BindsTo s fd ⟨[u], []⟩ [("_law_script", u)]) ∧ ∀ base : Heap, (K w.params).In base → base.Ns mainGlobals mg → FnOk l.prog w (K w.params) mg base (L2N.CX l.prog w) 7 fa fd ["_law_script"] (spLaw (K w.params))) :
    PySem.W.WalkO q loose XP YP l.row.toRowW d [] (fun f vs => PySem.call f vs) :=
  L2.walk_ofB (n := 63) (k := 7) (x := "_law_script") (CX := fun w => L2N.CX l.prog w) (sp := fun w => spLaw (K w.params)) hn (by decide) hdf ⟨rfl, by decide, by decide⟩ hY F (fun _ _ a ns hl hb _ hS => ⟨rfl, a, ns, rfl, hS, hl, hb, fun _ => rfl⟩)
    fun _ _ _ _ _ h => by
      obtain ⟨_, _, _, _, _, _, _, _, _, _, _, _, z⟩ := h
      exact z.elim
end K04
open PySem PySem.W PyProof.Rows in
set_option maxRecDepth 100000 in
set_option maxHeartbeats 0 in
theorem PySem.Challenge.cw_gangbooks_k04_amounts_within_holds : PySem.Challenge.rw_gangbooks_k04_amounts_within.Holds := by
  w_on; o_law; k_head; (case hw => w_witness2)
  k_fill
  refine K04.walk (l := PySem.Challenge.rw_gangbooks_k04_amounts_within) rfl rfl (fun w h Y => PySem.W.kIn_of Y) ?F
  case F =>
    intro w mg fa h KX G hmg
    refine' K04.all_mk KX G hmg ?z_ValueError ?z_len ?z_int ?z_abs ?z_isinstance ?z_bool ?z_range ?z_list ?z_zip ?z_all ?z_any ?z_min ?z_max ?z_tuple ?z_iter ?a_GangError ?a_BadShare ?a_BadAmounts ?a_BadSpan ?a_Unknown ?a_Amounts ?hn0 ?ht0 ?pg_Amounts ?hd_Amounts ?po_Amounts ?sa_Amounts ?mk_Amounts ?kc_Amounts ?sf_Amounts ?ha_Amounts ?hm_Amounts ?na_Amounts_numbers ?r1_Amounts_mul ?r2_Amounts_mul ?r3_Amounts_mul ?r4_Amounts_mul ?ei_BadAmounts ?l_E ?c_E ?t_E ?xL_BadAmounts ?esa_BadAmounts ?ega_BadAmounts ?egg_BadAmounts ?ens_BadAmounts ?ek_BadAmounts ?ebe_BadAmounts ?ety_BadAmounts ?ehd_BadAmounts ?eha_BadAmounts ?ehm_BadAmounts ?cb_GangError ?ch_GangError ?ct_GangError ?cs_BadAmounts_GangError ?k_BadAmounts_BadAmounts ?k_BadAmounts_ValueError ?k_BadAmounts_BadShare ?k_BadAmounts_BadSpan ?a__law_draw ?l__law_draw ?c__law_draw ?k__law_draw ?a__law_pool ?l__law_pool ?c__law_pool ?k__law_pool ?a_Amounts___init__ ?i_Amounts___init__ ?l_Amounts___init__ ?c_Amounts___init__ ?k_Amounts___init__ ?a_paired ?l_paired ?c_paired ?k_paired ?a_Amounts___sub__ ?i_Amounts___sub__ ?l_Amounts___sub__ ?c_Amounts___sub__ ?k_Amounts___sub__ ?a_Amounts___add__ ?i_Amounts___add__ ?l_Amounts___add__ ?c_Amounts___add__ ?k_Amounts___add__ ?a_Amounts___and__ ?i_Amounts___and__ ?l_Amounts___and__ ?c_Amounts___and__ ?k_Amounts___and__ ?a_Amounts___or__ ?i_Amounts___or__ ?l_Amounts___or__ ?c_Amounts___or__ ?k_Amounts___or__ ?a_Amounts___contains__ ?i_Amounts___contains__ ?l_Amounts___contains__ ?c_Amounts___contains__ ?k_Amounts___contains__ ?a_Amounts___mul__ ?i_Amounts___mul__ ?l_Amounts___mul__ ?c_Amounts___mul__ ?k_Amounts___mul__ ?a_Amounts___floordiv__ ?i_Amounts___floordiv__ ?l_Amounts___floordiv__ ?c_Amounts___floordiv__ ?k_Amounts___floordiv__ ?a_Amounts___mod__ ?i_Amounts___mod__ ?l_Amounts___mod__ ?c_Amounts___mod__ ?k_Amounts___mod__ ?a_Amounts___bool__ ?i_Amounts___bool__ ?l_Amounts___bool__ ?c_Amounts___bool__ ?k_Amounts___bool__ ?a_Amounts___eq__ ?i_Amounts___eq__ ?l_Amounts___eq__ ?c_Amounts___eq__ ?k_Amounts___eq__ ?a_Amounts___getitem__ ?i_Amounts___getitem__ ?l_Amounts___getitem__ ?c_Amounts___getitem__ ?k_Amounts___getitem__ ?a_Amounts___len__ ?i_Amounts___len__ ?l_Amounts___len__ ?c_Amounts___len__ ?k_Amounts___len__ ?a_Amounts___iter__ ?i_Amounts___iter__ ?l_Amounts___iter__ ?c_Amounts___iter__ ?k_Amounts___iter__ ?a__law_number ?l__law_number ?c__law_number ?k__law_number ?a__law_signed ?l__law_signed ?c__law_signed ?k__law_signed ?a__law_whole ?l__law_whole ?c__law_whole ?k__law_whole ?a__law_near ?l__law_near ?c__law_near ?k__law_near ?a__law_row ?l__law_row ?c__law_row ?k__law_row ?a__law_within ?l__law_within ?c__law_within ?k__law_within ?a__law_is ?l__law_is ?c__law_is ?k__law_is ?a__law_subject ?l__law_subject ?c__law_subject ?k__law_subject ?a__law_counted ?l__law_counted ?c__law_counted ?k__law_counted ?a__law_pair ?l__law_pair ?c__law_pair ?k__law_pair ?a_law ?l_law ?c_law ?k_law
    (case z_ValueError => k_is)
    (case z_len => k_is)
    (case z_int => k_is)
    (case z_abs => k_is)
    (case z_isinstance => k_is)
    (case z_bool => k_is)
    (case z_range => k_is)
    (case z_list => k_is)
    (case z_zip => k_is)
    (case z_all => k_is)
    (case z_any => k_is)
    (case z_min => k_is)
    (case z_max => k_is)
    (case z_tuple => k_is)
    (case z_iter => k_is)
    (case a_GangError => k_is)
    (case a_BadShare => k_is)
    (case a_BadAmounts => k_is)
    (case a_BadSpan => k_is)
    (case a_Unknown => k_is)
    (case a_Amounts => k_is)
    (case hn0 => k_is)
    (case ht0 => k_is)
    (case pg_Amounts => k_is)
    (case hd_Amounts => k_is)
    (case po_Amounts => k_is)
    (case sa_Amounts => k_is)
    (case mk_Amounts => k_is)
    (case kc_Amounts => k_is)
    (case sf_Amounts => k_is)
    (case ha_Amounts => k_is)
    (case hm_Amounts => k_is)
    (case na_Amounts_numbers => k_is)
    (case r1_Amounts_mul => k_is)
    (case r2_Amounts_mul => k_is)
    (case r3_Amounts_mul => k_is)
    (case r4_Amounts_mul => k_is)
    (case ei_BadAmounts => k_is)
    (case l_E => k_is)
    (case c_E => k_is)
    (case t_E => k_is)
    (case xL_BadAmounts => k_is)
    (case esa_BadAmounts => k_is)
    (case ega_BadAmounts => k_is)
    (case egg_BadAmounts => k_is)
    (case ens_BadAmounts => k_is)
    (case ek_BadAmounts => k_is)
    (case ebe_BadAmounts => k_is)
    (case ety_BadAmounts => k_is)
    (case ehd_BadAmounts => k_is)
    (case eha_BadAmounts => k_is)
    (case ehm_BadAmounts => k_is)
    (case cb_GangError => k_is)
    (case ch_GangError => k_is)
    (case ct_GangError => k_is)
    (case cs_BadAmounts_GangError => first | rfl | k_is)
    (case k_BadAmounts_BadAmounts => first | kit_is | k_is)
    (case k_BadAmounts_ValueError => first | kit_is | k_is)
    (case k_BadAmounts_BadShare => first | kit_is | k_is)
    (case k_BadAmounts_BadSpan => first | kit_is | k_is)
    (case a__law_draw => k_is)
    (case l__law_draw => k_is)
    (case c__law_draw => k_is)
    (case k__law_draw => k_is)
    (case a__law_pool => k_is)
    (case l__law_pool => k_is)
    (case c__law_pool => k_is)
    (case k__law_pool => k_is)
    (case a_Amounts___init__ => k_is)
    (case i_Amounts___init__ => k_is)
    (case l_Amounts___init__ => k_is)
    (case c_Amounts___init__ => k_is)
    (case k_Amounts___init__ => k_is)
    (case a_paired => k_is)
    (case l_paired => k_is)
    (case c_paired => k_is)
    (case k_paired => k_is)
    (case a_Amounts___sub__ => k_is)
    (case i_Amounts___sub__ => k_is)
    (case l_Amounts___sub__ => k_is)
    (case c_Amounts___sub__ => k_is)
    (case k_Amounts___sub__ => k_is)
    (case a_Amounts___add__ => k_is)
    (case i_Amounts___add__ => k_is)
    (case l_Amounts___add__ => k_is)
    (case c_Amounts___add__ => k_is)
    (case k_Amounts___add__ => k_is)
    (case a_Amounts___and__ => k_is)
    (case i_Amounts___and__ => k_is)
    (case l_Amounts___and__ => k_is)
    (case c_Amounts___and__ => k_is)
    (case k_Amounts___and__ => k_is)
    (case a_Amounts___or__ => k_is)
    (case i_Amounts___or__ => k_is)
    (case l_Amounts___or__ => k_is)
    (case c_Amounts___or__ => k_is)
    (case k_Amounts___or__ => k_is)
    (case a_Amounts___contains__ => k_is)
    (case i_Amounts___contains__ => k_is)
    (case l_Amounts___contains__ => k_is)
    (case c_Amounts___contains__ => k_is)
    (case k_Amounts___contains__ => k_is)
    (case a_Amounts___mul__ => k_is)
    (case i_Amounts___mul__ => k_is)
    (case l_Amounts___mul__ => k_is)
    (case c_Amounts___mul__ => k_is)
    (case k_Amounts___mul__ => k_is)
    (case a_Amounts___floordiv__ => k_is)
    (case i_Amounts___floordiv__ => k_is)
    (case l_Amounts___floordiv__ => k_is)
    (case c_Amounts___floordiv__ => k_is)
    (case k_Amounts___floordiv__ => k_is)
    (case a_Amounts___mod__ => k_is)
    (case i_Amounts___mod__ => k_is)
    (case l_Amounts___mod__ => k_is)
    (case c_Amounts___mod__ => k_is)
    (case k_Amounts___mod__ => k_is)
    (case a_Amounts___bool__ => k_is)
    (case i_Amounts___bool__ => k_is)
    (case l_Amounts___bool__ => k_is)
    (case c_Amounts___bool__ => k_is)
    (case k_Amounts___bool__ => k_is)
    (case a_Amounts___eq__ => k_is)
    (case i_Amounts___eq__ => k_is)
    (case l_Amounts___eq__ => k_is)
    (case c_Amounts___eq__ => k_is)
    (case k_Amounts___eq__ => k_is)
    (case a_Amounts___getitem__ => k_is)
    (case i_Amounts___getitem__ => k_is)
    (case l_Amounts___getitem__ => k_is)
    (case c_Amounts___getitem__ => k_is)
    (case k_Amounts___getitem__ => k_is)
    (case a_Amounts___len__ => k_is)
    (case i_Amounts___len__ => k_is)
    (case l_Amounts___len__ => k_is)
    (case c_Amounts___len__ => k_is)
    (case k_Amounts___len__ => k_is)
    (case a_Amounts___iter__ => k_is)
    (case i_Amounts___iter__ => k_is)
    (case l_Amounts___iter__ => k_is)
    (case c_Amounts___iter__ => k_is)
    (case k_Amounts___iter__ => k_is)
    (case a__law_number => k_is)
    (case l__law_number => k_is)
    (case c__law_number => k_is)
    (case k__law_number => k_is)
    (case a__law_signed => k_is)
    (case l__law_signed => k_is)
    (case c__law_signed => k_is)
    (case k__law_signed => k_is)
    (case a__law_whole => k_is)
    (case l__law_whole => k_is)
    (case c__law_whole => k_is)
    (case k__law_whole => k_is)
    (case a__law_near => k_is)
    (case l__law_near => k_is)
    (case c__law_near => k_is)
    (case k__law_near => k_is)
    (case a__law_row => k_is)
    (case l__law_row => k_is)
    (case c__law_row => k_is)
    (case k__law_row => k_is)
    (case a__law_within => k_is)
    (case l__law_within => k_is)
    (case c__law_within => k_is)
    (case k__law_within => k_is)
    (case a__law_is => k_is)
    (case l__law_is => k_is)
    (case c__law_is => k_is)
    (case k__law_is => k_is)
    (case a__law_subject => k_is)
    (case l__law_subject => k_is)
    (case c__law_subject => k_is)
    (case k__law_subject => k_is)
    (case a__law_counted => k_is)
    (case l__law_counted => k_is)
    (case c__law_counted => k_is)
    (case k__law_counted => k_is)
    (case a__law_pair => k_is)
    (case l__law_pair => k_is)
    (case c__law_pair => k_is)
    (case k__law_pair => k_is)
    (case a_law => k_is)
    (case l_law => k_is)
    (case c_law => k_is)
    (case k_law => k_is)
