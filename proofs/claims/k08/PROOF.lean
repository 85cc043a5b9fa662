import PyProof.Rows.All
import Wide.All
import OpenK.AllK
import Wide.FinOn
import KE.KOpsOwn
import KE.KExcIs
import HandS.ForMost
import HandS.ForExc
import HandS.IsInst
import HandS.Property
import HandS.CallSlots
import HandS.ExcCtx
import HandS.HotCalls
import HandS.ExcField
import HandS.ExcIs
import HandS.Flow
import HandS.Wide
import HandS.Conv
import HandS.Defaults
import HandS.Star
import HandS.Zip
import HandS.ListItems
import KE.KDictZip
import KE.KOwnIter
import KE.KDictIter
import HandS.Walk
import HandS.TupAny
import KE.GoesMore
import KE.KIntText
import KE.IntTextLaws
import HandS.StrMore
import HandS.RaiseMore
import HandS.ReplaceLit
import HandS.ReplaceList
import PyProof.ToksMono
import HandS.Codes
import KE.RegKIsAll
import HandS.EndBits
import PySem.Challenge.RW_gangbooks_k08_note_first_wrong
set_option Elab.async false
set_option linter.all false
set_option maxRecDepth 100000
set_option maxHeartbeats 1000000
set_option synthInstance.maxSize 100000
set_option synthInstance.maxHeartbeats 1000000
/-! GA: defs, classes and own operators of the text, as rules of the hand layer; what a callee raises is wished for at the caller's slots. -/
namespace GG
open PySem L2 PyProof.Rows

/-- a def by its body, what it lets out having no context -/
theorem Fun.okN {P : Program} {w : World} {K : PySem.W.Frag} {mg : Str → Option Value} {base : Heap} {x qual : Str} {st : Stmt} {f : Addr} {fd : FuncData} {N ps : List Str} {k : Nat} {sp : Sp} (F : Fun K x qual st f fd) (S : FnScope N ps (defScope st)) (len : ∀ vs H Q E, sp vs H Q E → vs.length = ps.length)
    (hbody : ∀ (cdv : Value) (A : Around) (outer : List Env) (s : Shared) (H : Hp) (vs : List V) (Q : VK) (E : XK), Room k (A.deeper (envOfC qual (defScope st) s.heap.objs.size f cdv)) → sp vs H Q E →
      ∃ t, PSs (cxOf (L2N.CX P w) P w K mg base N qual (defScope st) f cdv A outer s H E) (defBody st) t ∧ t { nx := fun _ H' => Q .non H', rt := Q } (start N vs) H) : FnOk P w K mg base (L2N.CX P w) (k + 1) f fd ps sp := by
  obtain ⟨oc, od, kV, doc, pm, an, cdv, ct, osl, rfl, lk, hcd⟩ := F.ex
  exact fn_of lk hcd S len fun A outer s H vs Q E hr hsp => hbody cdv A outer s H vs Q E hr hsp
/-- .. called within an except suite -/
theorem Fun.okH {P : Program} {w : World} {K : PySem.W.Frag} {mg : Str → Option Value} {base : Heap} {x qual : Str} {st : Stmt} {f : Addr} {fd : FuncData} {N ps : List Str} {k : Nat} {sp : Sp} (F : Fun K x qual st f fd) (S : FnScope N ps (defScope st)) (len : ∀ vs H Q E, sp vs H Q E → vs.length = ps.length)
    (hbody : ∀ (cdv : Value) (A : Around) (outer : List Env) (s : Shared) (H : Hp) (vs : List V) (Q : VK) (E : XK) (p : Addr × Obj), L2H.Hot1 A p → L2H.RoomH k (A.deeper (envOfC qual (defScope st) s.heap.objs.size f cdv)) → sp vs H Q E →
      ∃ t, PSs (L2H.cxH (L2N.CX P w) P w K mg base N qual (defScope st) f cdv A outer s H E p) (defBody st) t ∧ t { nx := fun _ H' => Q .non H', rt := Q } (start N vs) H) : L2H.FnH P w K mg base (L2N.CX P w) (k + 1) f fd ps sp := by
  obtain ⟨oc, od, kV, doc, pm, an, cdv, ct, osl, rfl, lk, hcd⟩ := F.ex
  exact L2H.fn_ofH lk hcd S len fun A outer s H vs Q E p hot hr hsp => hbody cdv A outer s H vs Q E p hot hr hsp

/-! ### bundles: a def of the top, a special method, a method, a class that is made -/
structure Fn (P : Program) (w : World) (K : PySem.W.Frag) (mg : Str → Option Value) (base : Heap) (x : Str) (k : Nat) (ps : List Str) (dvs : List V) (sp : Sp) : Prop where
  ex : ∃ f fd ds, FnOk P w K mg base (L2N.CX P w) k f fd ps sp ∧ mg x = some (.ref f) ∧ PySem.W.keepIn K (.ref f) = true ∧ L2.Binds K fd ps ds ∧ Vals dvs ds
/-- the class at C has the special method name -/
structure Sm (P : Program) (w : World) (K : PySem.W.Frag) (mg : Str → Option Value) (base : Heap) (C : Addr) (name : Str) (k : Nat) (ps : List Str) (sp : Sp) : Prop where
  ex : ∃ f fd, FnOk P w K mg base (L2N.CX P w) k f fd ps sp ∧ PySem.W.findIn K (.ref C) name = some (some (.ref f)) ∧ PySem.W.isFn K (.ref f) = true ∧ L2.Binds K fd ps []
/-- the class at C has the method m -/
structure Mt (P : Program) (w : World) (K : PySem.W.Frag) (mg : Str → Option Value) (base : Heap) (C : Addr) (m : Str) (k : Nat) (ps : List Str) (dvs : List V) (sp : Sp) : Prop where
  ex : ∃ f fd ds, FnOk P w K mg base (L2N.CX P w) k f fd ps sp ∧ Meth K C m f ∧ L2.Binds K fd ps ds ∧ Vals dvs ds
  cls : Cls K C
/-- the class x, at C, is made by its __init__ -/
structure Mc (P : Program) (w : World) (K : PySem.W.Frag) (mg : Str → Option Value) (base : Heap) (x : Str) (C : Addr) (k : Nat) (ps : List Str) (dvs : List V) (sp : Sp) : Prop where
  ex : ∃ f fd ds, FnOk P w K mg base (L2N.CX P w) k f fd ps sp ∧ Mk K C f ∧ mg x = some (.ref C) ∧ L2.Binds K fd ps ds ∧ Vals dvs ds

/-- what a callee lets out is taken, at every slots -/
def Ps (X : Cx) (E : L2.St → XK) : Prop := ∀ σ, PassesAt (L2N.CX X.prog X.w) X σ (E σ)
theorem ps_of {X : Cx} {W : WX} (tk : L2N.Takes X W) : Ps X (WE W) := fun σ => L2N.passAt tk σ
/-- nothing is let out -/
abbrev W0 : WX := fun _ _ _ _ => False
theorem ps0 {X : Cx} : Ps X (WE W0) := fun _ _ _ _ _ _ _ h => by
  obtain ⟨_, _, _, _, _, _, _, _, _, _, _, _, z⟩ := h
  exact z.elim

section
variable {X : Cx} {CX : CXT} {k : Nat} {C f : Addr} {fd : FuncData} {ps : List Str} {sp : Sp} {E : L2.St → XK} {dvs : List V} {ds : List Value} {x m : Str} {p pos apos : Pos} {e o : Expr} {es : List Expr} {ta tb : TE} {t : TA} {a b : Expr}
/-- the callee runs somewhere below the body -/
theorem run_at {A : Around} {pins : List (Addr × Obj)} {σ : L2.St} {H : Hp} {s : Shared} {Q : VK} {E : XK} {us : List Value} {vs : List V} (F : FnOk X.prog X.w X.K X.mg X.base CX k f fd ps sp) (hr : Room k A) (fr : A.frames = X.A.frames) (hb : L2.Binds X.K fd ps ds) (hd : Vals dvs ds)
    (hx : PassesAt CX X σ E) (I : L2.Inv X pins σ H s) (r : Vals vs us) (h : sp (vs ++ dvs) H Q E) : wpAny (model X.prog X.w) A (call (.ref f) us) (EP X pins σ Q) X.xe s := by
  have e0 : Env0 X.prog X.w X.K X.mg X.base A X.stack s H := by
    have e := I.env0
    exact ⟨by rw [fr]; exact e.frames, e.mod, e.bs, e.bsz, e.funs, e.frf, e.hok, e.bare⟩
  have r2 : Vals (vs ++ dvs) (us ++ ds) := r.append hd
  have hl : (us ++ ds).length = ps.length := by rw [← r2.length]; exact F.len _ _ _ _ h
  refine wpAny_call (codeAny_mono (F.run A X.stack s H ⟨us, []⟩ (us ++ ds) (vs ++ dvs) Q E hr e0 (hb s us I.kIn hl) r2 h) fun r s' hq => ?_)
  cases r with
  | error e => exact hx pins H s e s' I hq
  | ok fl =>
    cases fl with
    | ret u => exact I.after hq
    | next => exact False.elim hq
    | brk => exact False.elim hq
    | cont => exact False.elim hq
/-- .. without defaults -/
theorem run_at0 {A : Around} {pins : List (Addr × Obj)} {σ : L2.St} {H : Hp} {s : Shared} {Q : VK} {E : XK} {us : List Value} {vs : List V} (F : FnOk X.prog X.w X.K X.mg X.base CX k f fd ps sp) (hr : Room k A) (fr : A.frames = X.A.frames) (hb : L2.Binds X.K fd ps [])
    (hx : PassesAt CX X σ E) (I : L2.Inv X pins σ H s) (r : Vals vs us) (h : sp vs H Q E) : wpAny (model X.prog X.w) A (call (.ref f) us) (EP X pins σ Q) X.xe s :=
  run_at (dvs := []) F hr fr hb .nil hx I r (by rw [List.append_nil]; exact h)

/-- f(e, ..) -/
theorem pe_fn (F : Fn X.prog X.w X.K X.mg X.base x k ps dvs sp) (hr : Room k X.A) (hx : Ps X E) (ha : PA X (e :: es) t) (hg : Gl X x := by rfl) (hdb : (x == ("__debug__" : Str)) = false := by decide)
    (he : starEach (e :: es) X.env = (false, eval e X.env) :: starEach es X.env := by rfl) (hpl : (backTo pos (starEach es X.env)).any (·.1) = false := by rfl) :
    PE X (.Call (.Name x p) (e :: es) [] pos) (tCallSD sp dvs E t) := by
  obtain ⟨f, fd, ds, F, hm, hk, hb, hd⟩ := F.ex
  exact pe_callSD F hr hg hm hk hb hd hx ha hdb he hpl

/-- o.m(e, ..), o.m() -/
def tMtS (C : Addr) (m : Str) (sp : Sp) (dvs : List V) (E : L2.St → XK) (ta : TE) (t : TA) : TE := fun σ H Q => ta σ H fun x H1 => ∃ a dx fs, x = .ref a ∧ H1 a = some (.ins C dx fs) ∧ fs.lookup m = none ∧
  t σ H1 fun vs H2 => sp (.ref a :: (vs ++ dvs)) H2 Q (E σ)
theorem pe_mt {pl : Sem Bool} (F : Mt X.prog X.w X.K X.mg X.base C m k ps dvs sp) (hr : Room k X.A) (hx : Ps X E) (he : PE X o ta) (ha : PA X (e :: es) t)
    (hst : starEach (e :: es) X.env = (false, eval e X.env) :: starEach es X.env := by rfl) (hpl : (backTo pos (starEach es X.env)).any (·.1) = false := by rfl)
    (ht : eval (.Call (.Attribute o m apos) (e :: es) [] pos) X.env = (do
      let ov ← eval o X.env
      standAt apos.atName
      let (f, first) ← holding [ov] (getMethod ov m pl)
      callWith pos f first (backTo pos (starEach (e :: es) X.env)) (backToKw pos (keywordEach [] X.env))) := by rfl) :
    PE X (.Call (.Attribute o m apos) (e :: es) [] pos) (tMtS C m sp dvs E ta t) := by
  obtain ⟨⟨f, fd, ds, F, hm, hb, hd⟩, c⟩ := F
  refine ⟨fun pins s σ H Q I h => ?_⟩
  refine PySem.W.methodCall_KW (pl := pl) (thn (he.run pins s σ H _ I h) fun u s1 ⟨x, H1, I1, rx, a, dx, fs, ex, ea, l, q⟩ => ?_) ht
  subst ex
  obtain rfl : u = Value.ref a := rx
  refine getmeth_ok I1 ea c hm l ?_
  refine PySem.W.callWith_K (first := [.ref a]) (h₀ := X.base) I.ok.mod.kin hm.kp (thn (ha.run pos pins s1 σ H1 _ I1 q) fun us s2 ⟨vs, H2, I2, r, q2⟩ => ⟨I2.kIn, ?_⟩) hst hpl
  exact run_at (us := .ref a :: us) (vs := .ref a :: vs) F hr rfl hb hd (hx σ) I2 (.cons rfl r) q2
theorem pe_mt0 {pl : Sem Bool} (F : Mt X.prog X.w X.K X.mg X.base C m k ps dvs sp) (hr : Room k X.A) (hx : Ps X E) (he : PE X o ta)
    (ht : eval (.Call (.Attribute o m apos) [] [] pos) X.env = (do
      let ov ← eval o X.env
      standAt apos.atName
      let (f, first) ← holding [ov] (getMethod ov m pl)
      callWith pos f first (backTo pos (starEach [] X.env)) (backToKw pos (keywordEach [] X.env))) := by rfl) :
    PE X (.Call (.Attribute o m apos) [] [] pos) (tMtS C m sp dvs E ta tNil) := by
  obtain ⟨⟨f, fd, ds, F, hm, hb, hd⟩, c⟩ := F
  refine ⟨fun pins s σ H Q I h => ?_⟩
  refine PySem.W.methodCall_KW (pl := pl) (thn (he.run pins s σ H _ I h) fun u s1 ⟨x, H1, I1, rx, a, dx, fs, ex, ea, l, q⟩ => ?_) ht
  subst ex
  obtain rfl : u = Value.ref a := rx
  refine getmeth_ok I1 ea c hm l ?_
  exact PySem.W.callWith_K0 (first := [.ref a]) I1.kIn hm.kp (run_at (us := [.ref a]) (vs := [.ref a]) F hr rfl hb hd (hx σ) I1 (.cons rfl .nil) q)

/-- C(e, ..): a new instance and its dict, then __init__ -/
def tMkS (C : Addr) (sp : Sp) (dvs : List V) (E : L2.St → XK) (t : TA) : TE := fun σ H Q => t σ H fun vs H1 => ∀ x dx, H1 x = none → H1 dx = none → dx ≠ x →
  sp (.ref x :: (vs ++ dvs)) (upd (upd H1 dx (.own x)) x (.ins C dx [])) (fun v H2 => v = .non ∧ Q (.ref x) H2) (E σ)
theorem run_mk {pins : List (Addr × Obj)} {σ : L2.St} {H : Hp} {s : Shared} {Q : VK} {E : XK} {us : List Value} {vs : List V} (M : Mk X.K C f) (F : FnOk X.prog X.w X.K X.mg X.base CX k f fd ps sp) (hr : Room (k + 1) X.A) (hb : L2.Binds X.K fd ps ds) (hd : Vals dvs ds)
    (hx : PassesAt CX X σ E) (I : L2.Inv X pins σ H s) (r : Vals vs us)
    (h : ∀ x dx, H x = none → H dx = none → dx ≠ x → sp (.ref x :: (vs ++ dvs)) (upd (upd H dx (.own x)) x (.ins C dx [])) (fun v H2 => v = .non ∧ Q (.ref x) H2) E) :
    wpAny (model X.prog X.w) X.A (call (.ref C) us) (EP X pins σ Q) X.xe s := by
  have hq := h (s.heap.objs.size + 1) s.heap.objs.size (I.hok.fresh (Nat.le_succ _)) (I.hok.fresh (Nat.le_refl _)) (Nat.ne_of_lt (Nat.lt_succ_self _))
  have I2 := Inv.made (C := C) I
  have r2 : Vals (V.ref (s.heap.objs.size + 1) :: (vs ++ dvs)) (Value.ref (s.heap.objs.size + 1) :: (us ++ ds)) := .cons rfl (r.append hd)
  have hl : (Value.ref (s.heap.objs.size + 1) :: us ++ ds).length = ps.length := by
    have e := r2.length
    rw [F.len _ _ _ _ hq] at e
    exact e.symm
  refine wpAny_call (make_map (f := f) I.kIn M.makes M.init (beq_iff_eq.mp M.fn) (codeAny_mono (F.run _ X.stack _ _ ⟨Value.ref (s.heap.objs.size + 1) :: us, []⟩
    (Value.ref (s.heap.objs.size + 1) :: (us ++ ds)) _ _ E (hr.make C us []) (I2.env0.make C us []) (hb _ (Value.ref (s.heap.objs.size + 1) :: us) I2.kIn hl) r2 hq) fun r s' hq' => ?_))
  cases r with
  | error e => exact hx pins _ _ e s' I2 hq'
  | ok fl =>
    cases fl with
    | ret u =>
      obtain ⟨v, H', I3, rv, ev, q3⟩ := I2.after hq'
      subst ev
      exact ⟨rv, ⟨V.ref (s.heap.objs.size + 1), H', I3, rfl, q3⟩⟩
    | next => exact False.elim hq'
    | brk => exact False.elim hq'
    | cont => exact False.elim hq'
theorem pe_mk (M : Mc X.prog X.w X.K X.mg X.base x C k ps dvs sp) (hr : Room (k + 1) X.A) (hx : Ps X E) (ha : PA X (e :: es) t) (hg : Gl X x := by rfl) (hdb : (x == ("__debug__" : Str)) = false := by decide)
    (he : starEach (e :: es) X.env = (false, eval e X.env) :: starEach es X.env := by rfl) (hpl : (backTo pos (starEach es X.env)).any (·.1) = false := by rfl) :
    PE X (.Call (.Name x p) (e :: es) [] pos) (tMkS C sp dvs E t) := by
  obtain ⟨f, fd, ds, F, M, hm, hb, hd⟩ := M.ex
  refine ⟨fun pins s σ H Q I h => ?_⟩
  refine wpAny_Call_Name_kw (ld_glob I hg hm ?_ hdb)
  refine PySem.W.callWith_K (h₀ := X.base) I.ok.mod.kin M.kp (thn (ha.run pos pins s σ H _ I h) fun us s1 ⟨vs, H1, I1, r, q⟩ => ⟨I1.kIn, ?_⟩) he hpl
  exact run_mk M F hr hb hd (hx σ) I1 r q

/-! ### operators with the slots -/
abbrev R2S := L2.St → R2
def OpS (X : Cx) (f : Value → Value → Sem Value) (r : R2S) : Prop :=
  ∀ (pins : List (Addr × Obj)) (s : Shared) (σ : L2.St) (H : Hp) (x y : V) (v u : Value) (Q : VK), L2.Inv X pins σ H s → RelV x v → RelV y u → r σ x y H Q →
    wpAny (model X.prog X.w) X.A (f v u) (EP X pins σ Q) X.xe s
def tOpS (r : R2S) (ta tb : TE) : TE := fun σ H Q => ta σ H fun x H1 => tb σ H1 fun y H2 => r σ x y H2 Q
theorem OpS.of {f : Value → Value → Sem Value} {r : R2} (h : OpR X f r) : OpS X f (fun _ => r) := fun pins s σ H x y v u Q I rx ry q => h pins s σ H x y v u Q I rx ry q
theorem OpS.or {f : Value → Value → Sem Value} {r r' : R2S} (h : OpS X f r) (h' : OpS X f r') : OpS X f (fun σ x y H Q => r σ x y H Q ∨ r' σ x y H Q) := fun pins s σ H x y v u Q I rx ry q => by
  rcases q with q | q
  · exact h pins s σ H x y v u Q I rx ry q
  · exact h' pins s σ H x y v u Q I rx ry q
theorem pe_opS {op : Operator} {r : R2S} (ho : OpS X (binaryOp op) r) (ha : PE X a ta) (hb : PE X b tb) : PE X (.BinOp a op b pos) (tOpS r ta tb) :=
  ⟨fun pins s σ H Q I h => wpAny_BinOp (binT ha hb I h fun v u s2 x y H2 I2 rx ry q => ho pins s2 σ H2 x y v u Q I2 rx ry q)⟩
theorem pe_cmpS {op : CmpOp} {r : R2S} (ho : OpS X (compareOp op) r) (ha : PE X a ta) (hb : PE X b tb) (hm : behindInMarks op b = false) : PE X (.Compare a [op] [b] pos) (tOpS r ta tb) :=
  ⟨fun pins s σ H Q I h => wpAny_Compare1 (binT ha hb I h fun v u s2 x y H2 I2 rx ry q => ho pins s2 σ H2 x y v u Q I2 rx ry q) hm⟩
theorem pt_cmpS {op : CmpOp} {r : R2S} (ho : OpS X (compareOp op) r) (ha : PE X a ta) (hb : PE X b tb) (hm : behindInMarks op b = false) : PT X (.Compare a [op] [b] pos) (tTest (tOpS r ta tb)) := by
  refine ⟨fun pins s σ H Q I h => wpAny_isTrue_Compare1 (thn (ha.run pins s σ H _ I h) fun v s1 ⟨x, H1, I1, r1, q1⟩ => thn (hb.run pins s1 σ H1 _ I1 q1) fun u s2 ⟨y, H2, I2, r2, q2⟩ =>
    thn (ho pins s2 σ H2 x y v u _ I2 r1 r2 q2) fun c s3 hz => ?_) hm⟩
  obtain ⟨z, H3, I3, r3, k, e, q3⟩ := hz
  subst e
  cases r3
  exact wpAny_truthy_bool ⟨H3, I3, q3⟩
def UnS (X : Cx) (f : Value → Sem Value) (r : L2.St → V → Hp → VK → Prop) : Prop :=
  ∀ (pins : List (Addr × Obj)) (s : Shared) (σ : L2.St) (H : Hp) (x : V) (v : Value) (Q : VK), L2.Inv X pins σ H s → RelV x v → r σ x H Q → wpAny (model X.prog X.w) X.A (f v) (EP X pins σ Q) X.xe s
def tUnS (r : L2.St → V → Hp → VK → Prop) (ta : TE) : TE := fun σ H Q => ta σ H fun x H1 => r σ x H1 Q
theorem UnS.of {f : Value → Sem Value} {r : V → Hp → VK → Prop} (h : UnR X f r) : UnS X f (fun _ => r) := fun pins s σ H x v Q I rx q => h pins s σ H x v Q I rx q
theorem pe_unS {op : UnaryOp} {r : L2.St → V → Hp → VK → Prop} (ho : UnS X (unaryOp op) r) (ha : PE X a ta) : PE X (.UnaryOp op a pos) (tUnS r ta) :=
  ⟨fun pins s σ H Q I h => UnaryOp_ (thn (ha.run pins s σ H _ I h) fun v s1 ⟨x, H1, I1, r1, q1⟩ => ho pins s1 σ H1 x v Q I1 r1 q1)⟩
/-- a call of a built-in by values, with the slots -/
def CallS (X : Cx) (f : Value) (r : L2.St → List V → Hp → VK → Prop) : Prop :=
  ∀ (pins : List (Addr × Obj)) (s : Shared) (σ : L2.St) (H : Hp) (xs : List V) (us : List Value) (Q : VK), L2.Inv X pins σ H s → Vals xs us → r σ xs H Q → wpAny (model X.prog X.w) X.A (call f us) (EP X pins σ Q) X.xe s
def tCBS (r : L2.St → List V → Hp → VK → Prop) (t : TA) : TE := fun σ H Q => t σ H fun vs H1 => r σ vs H1 Q
theorem CallS.of {f : Value} {r : List V → Hp → VK → Prop} (h : CallR X f r) : CallS X f (fun _ => r) := fun pins s σ H xs us Q I rx q => h pins s σ H xs us Q I rx q
theorem CallS.or {f : Value} {r r' : L2.St → List V → Hp → VK → Prop} (h : CallS X f r) (h' : CallS X f r') : CallS X f (fun σ xs H Q => r σ xs H Q ∨ r' σ xs H Q) := fun pins s σ H xs us Q I rx q => by
  rcases q with q | q
  · exact h pins s σ H xs us Q I rx q
  · exact h' pins s σ H xs us Q I rx q
theorem pe_callBS {id : String} {r : L2.St → List V → Hp → VK → Prop} (hc : CallS X (.builtin id) r) (hm : X.mg x = none) (hv : bootBuiltins x = some (.builtin id)) (ha : PA X (e :: es) t) (hg : Gl X x := by rfl) (hn : x ≠ "__name__" := by decide) (hdb : (x == ("__debug__" : Str)) = false := by decide)
    (he : starEach (e :: es) X.env = (false, eval e X.env) :: starEach es X.env := by rfl) (hpl : (backTo pos (starEach es X.env)).any (·.1) = false := by rfl) : PE X (.Call (.Name x p) (e :: es) [] pos) (tCBS r t) :=
  ⟨fun pins s σ H Q I h => wpAny_Call_Name_kw (ld_blt I hg hm hv (PyProof.Rows.callWith_builtin1 (thn (ha.run pos pins s σ H _ I h) fun us s1 ⟨vs, H1, I1, r1, q1⟩ => hc pins s1 σ H1 vs us Q I1 r1 q1) he hpl) hn hdb)⟩
theorem pe_callTS {T : String} {r : L2.St → List V → Hp → VK → Prop} (hc : CallS X (.type T) r) (hm : X.mg x = none) (hv : bootBuiltins x = some (.type T)) (ha : PA X (e :: es) t) (hg : Gl X x := by rfl) (hn : x ≠ "__name__" := by decide) (hdb : (x == ("__debug__" : Str)) = false := by decide)
    (he : starEach (e :: es) X.env = (false, eval e X.env) :: starEach es X.env := by rfl) (hpl : (backTo pos (starEach es X.env)).any (·.1) = false := by rfl) : PE X (.Call (.Name x p) (e :: es) [] pos) (tCBS r t) :=
  ⟨fun pins s σ H Q I h => wpAny_Call_Name_kw (ld_blt I hg hm hv (PyProof.Rows.callWith_type1 (thn (ha.run pos pins s σ H _ I h) fun us s1 ⟨vs, H1, I1, r1, q1⟩ => hc pins s1 σ H1 vs us Q I1 r1 q1) he hpl) hn hdb)⟩

/-! ### own operators -/
theorem inst_of {pins : List (Addr × Obj)} {σ : L2.St} {H : Hp} {s : Shared} {a dx : Addr} {fs : List (Str × V)} (I : L2.Inv X pins σ H s) (ea : H a = some (.ins C dx fs)) : ∃ ox od, PySem.W.InstAt s.heap a ox C od := by
  obtain ⟨mA, J, _⟩ := ins_get I.hok ea
  obtain ⟨od, J, _⟩ := J.look
  exact ⟨_, _, J⟩
theorem cmpBack_ep {pins : List (Addr × Obj)} {σ : L2.St} {Q : VK} {u : Value} {s' : Shared} (h : EP X pins σ Q u s') : PySem.W.CmpBack (EP X pins σ Q) u s' := by
  obtain ⟨v, H', I, r, q⟩ := id h
  cases v with
  | non => cases (show u = _ from r); exact h
  | bl b => cases (show u = _ from r); exact h
  | int i => obtain ⟨t, e⟩ := (show ∃ t, u = Value.int i t from r); cases e; exact h
  | str i => obtain ⟨t, e⟩ := (show ∃ t, u = Value.str i t from r); cases e; exact h
  | byt i => obtain ⟨t, e⟩ := (show ∃ t, u = Value.bytes i t from r); cases e; exact h
  | flt i => obtain ⟨t, e⟩ := (show ∃ t, u = Value.float i t from r); cases e; exact h
  | ref a => cases (show u = _ from r); exact h
  | ty a => cases (show u = _ from r); exact h

/-- x op y, both instances of the class at C -/
def rOwn (C : Addr) (sp : Sp) (E : L2.St → XK) : R2S := fun σ x y H Q => ∃ a dx fs b dy gs, x = .ref a ∧ H a = some (.ins C dx fs) ∧ y = .ref b ∧ H b = some (.ins C dy gs) ∧ sp [.ref a, .ref b] H Q (E σ)
theorem op_own {op : Operator} (S : Sm X.prog X.w X.K X.mg X.base C (PySem.dunder op.info.2) k ps sp) (hr : Room k X.A) (hx : Ps X E) (hc : PySem.W.selfFirst X.K C = true) : OpS X (binaryOp op) (rOwn C sp E) := by
  intro pins s σ H x y v u Q I rx ry hq
  obtain ⟨f, fd, F, hs, hf, hb⟩ := S.ex
  obtain ⟨a, dx, fs, b, dy, gs, rfl, ha, rfl, hb', q⟩ := hq
  cases rx
  cases ry
  obtain ⟨_, _, J⟩ := inst_of I ha
  obtain ⟨_, _, J'⟩ := inst_of I hb'
  obtain ⟨m, hF⟩ := I.fr
  refine PySem.W.binop_K hF I.ok.mod.kin J J'.type hc hs hf ?_
  exact thn (run_at0 (vs := [.ref a, .ref b]) F hr rfl hb (hx σ) I (.cons rfl (.cons rfl .nil)) q) fun _ _ z => cmpBack_ep z
/-- what the walk asks of a built-in type at the right of an own operator -/
structure RightT (K : PySem.W.Frag) (C : Addr) (T nm : String) : Prop where
  r1 : ∃ fo, PySem.W.findIn K (.type T) (PySem.dunder nm) = some fo
  r2 : ∃ ro, PySem.W.findIn K (.type T) (dunderR nm) = some ro
  rc : ∃ rc, PySem.W.findIn K (.ref C) (dunderR nm) = some rc ∧ (rc = none ∨ ∃ g : Addr, rc = some (.ref g))
  sub : PySem.W.subIn K (.type T) (.ref C) = some false
/-- x op y, y an int -/
def rOwnI (C : Addr) (sp : Sp) (E : L2.St → XK) : R2S := fun σ x y H Q => ∃ a dx fs i, x = .ref a ∧ H a = some (.ins C dx fs) ∧ y = .int i ∧ sp [.ref a, .int i] H Q (E σ)
theorem op_ownI {op : Operator} (S : Sm X.prog X.w X.K X.mg X.base C (PySem.dunder op.info.2) k ps sp) (hr : Room k X.A) (hx : Ps X E) (hc : PySem.W.selfFirst X.K C = true) (hi : RightT X.K C "int" op.info.2) : OpS X (binaryOp op) (rOwnI C sp E) := by
  intro pins s σ H x y v u Q I rx ry hq
  obtain ⟨f, fd, F, hs, hf, hb⟩ := S.ex
  obtain ⟨a, dx, fs, i, rfl, ha, rfl, q⟩ := hq
  cases rx
  obtain ⟨t, rfl⟩ := (show ∃ t, u = Value.int i t from ry)
  obtain ⟨_, _, J⟩ := inst_of I ha
  obtain ⟨m, hF⟩ := I.fr
  obtain ⟨fo, h1⟩ := hi.r1
  obtain ⟨ro, h2⟩ := hi.r2
  obtain ⟨rc, h3, h4⟩ := hi.rc
  refine PySem.W.ksp_binT hF I.ok.mod.kin J (T := "int") rfl hc hs hf h3 h4 h1 h2 hi.sub ?_
  exact thn (run_at0 (vs := [.ref a, .int i]) F hr rfl hb (hx σ) I (.cons rfl (.cons ⟨t, rfl⟩ .nil)) q) fun _ _ z => cmpBack_ep z
/-- x == y by the text's own ==, y an instance of the same class -/
theorem op_ownEq (S : Sm X.prog X.w X.K X.mg X.base C "__eq__" k ps sp) (hr : Room k X.A) (hx : Ps X E) : OpS X (compareOp .Eq) (rOwn C sp E) := by
  intro pins s σ H x y v u Q I rx ry hq
  obtain ⟨f, fd, F, hs, hf, hb⟩ := S.ex
  obtain ⟨a, dx, fs, b, dy, gs, rfl, ha, rfl, hb', q⟩ := hq
  cases rx
  cases ry
  obtain ⟨_, _, J⟩ := inst_of I ha
  obtain ⟨_, _, J'⟩ := inst_of I hb'
  obtain ⟨m, hF⟩ := I.fr
  show wpAny (model X.prog X.w) X.A (richCompare .Eq _ _) (EP X pins σ Q) X.xe s
  refine PySem.W.cmp_K (op := .Eq) (tb := .ref C) hr.units0 hF I.ok.mod.kin J J'.type (by simp [PySem.W.notFirst]) hs hf ?_
  exact thn (run_at0 (vs := [.ref a, .ref b]) F hr rfl hb (hx σ) I (.cons rfl (.cons rfl .nil)) q) fun _ _ z => cmpBack_ep z
/-- y in x by the text's own __contains__, which gives a bool -/
def rOwnIn (C : Addr) (sp : Sp) (E : L2.St → XK) : R2S := fun σ y x H Q => ∃ a dx fs, x = .ref a ∧ H a = some (.ins C dx fs) ∧ sp [.ref a, y] H (fun v H' => ∃ c, v = .bl c ∧ Q (.bl c) H') (E σ)
theorem op_ownIn (S : Sm X.prog X.w X.K X.mg X.base C "__contains__" k ps sp) (hr : Room k X.A) (hx : Ps X E) : OpS X (compareOp .In) (rOwnIn C sp E) := by
  intro pins s σ H y x v u Q I ry rx hq
  obtain ⟨f, fd, F, hs, hf, hb⟩ := S.ex
  obtain ⟨a, dx, fs, rfl, ha, q⟩ := hq
  cases rx
  obtain ⟨_, _, J⟩ := inst_of I ha
  obtain ⟨m, hF⟩ := I.fr
  refine PySem.W.in_K hF I.ok.mod.kin J hs hf ?_
  refine thn (run_at0 (vs := [.ref a, y]) F hr rfl hb (hx σ) I (.cons rfl (.cons ry .nil)) q) fun r s' z => ?_
  obtain ⟨w', H', I', rw', c, ec, q'⟩ := z
  subst ec
  cases rw'
  exact wpAny_truthy_bool ⟨.bl c, H', I', rfl, q'⟩
/-- -x by the text's own __neg__ -/
def rOwn1 (C : Addr) (sp : Sp) (E : L2.St → XK) : L2.St → V → Hp → VK → Prop := fun σ x H Q => ∃ a dx fs, x = .ref a ∧ H a = some (.ins C dx fs) ∧ sp [.ref a] H Q (E σ)
theorem un_own (S : Sm X.prog X.w X.K X.mg X.base C "__neg__" k ps sp) (hr : Room k X.A) (hx : Ps X E) : UnS X (unaryOp .USub) (rOwn1 C sp E) := by
  intro pins s σ H x v Q I rx hq
  obtain ⟨f, fd, F, hs, hf, hb⟩ := S.ex
  obtain ⟨a, dx, fs, rfl, ha, q⟩ := hq
  cases rx
  obtain ⟨_, _, J⟩ := inst_of I ha
  obtain ⟨m, hF⟩ := I.fr
  refine PySem.W.ksp_neg hF I.ok.mod.kin J hs hf ?_
  exact run_at0 (vs := [.ref a]) F hr rfl hb (hx σ) I (.cons rfl .nil) q
/-- abs(x) by the text's own __abs__ -/
def rOwnC (C : Addr) (sp : Sp) (E : L2.St → XK) : L2.St → List V → Hp → VK → Prop := fun σ xs H Q => ∃ a dx fs, xs = [.ref a] ∧ H a = some (.ins C dx fs) ∧ sp [.ref a] H Q (E σ)
theorem call_ownAbs (S : Sm X.prog X.w X.K X.mg X.base C "__abs__" k ps sp) (hr : Room (k + 1) X.A) (hx : Ps X E) : CallS X (.builtin "abs") (rOwnC C sp E) := by
  intro pins s σ H xs us Q I r hq
  obtain ⟨f, fd, F, hs, hf, hb⟩ := S.ex
  obtain ⟨a, dx, fs, rfl, ha, q⟩ := hq
  obtain ⟨u, rfl, rx⟩ := vals1 r
  cases rx
  obtain ⟨_, _, J⟩ := inst_of I ha
  obtain ⟨m, hF⟩ := I.fr
  refine PySem.Calls.call_function_entry kind_abs plain_abs entry_abs (args_abs _) ?_
  unfold Builtin.«abs»
  refine wpAny_bind (m := oneArg "abs" _) (wpAny_pure ?_)
  refine wpAny_bind (m := callSpecial? (.ref a) (Str.ofString "__abs__")) (PySem.W.special_fn I.kIn J hs (beq_iff_eq.mp hf) (wpAny_mono (run_at0 (vs := [.ref a]) F hr.in1 rfl hb (hx σ) I (.cons rfl .nil) q) (fun r s' hr => ?_) fun _ _ y => y))
  exact wpAny_pure ⟨_, rfl, hr⟩
/-- len(x) by the text's own __len__ -/
def rOwnLen (C : Addr) (sp : Sp) (E : L2.St → XK) : L2.St → List V → Hp → VK → Prop := fun σ xs H Q => ∃ a dx fs, xs = [.ref a] ∧ H a = some (.ins C dx fs) ∧ sp [.ref a] H (fun v H' => ∃ n : Int, v = .int n ∧ 0 ≤ n ∧ n < 2 ^ 63 ∧ Q (.int n) H') (E σ)
theorem call_ownLen (S : Sm X.prog X.w X.K X.mg X.base C "__len__" k ps sp) (hr : Room (k + 1) X.A) (hx : Ps X E) : CallS X (.builtin "len") (rOwnLen C sp E) := by
  intro pins s σ H xs us Q I r hq
  obtain ⟨f, fd, F, hs, hf, hb⟩ := S.ex
  obtain ⟨a, dx, fs, rfl, ha, q⟩ := hq
  obtain ⟨u, rfl, rx⟩ := vals1 r
  cases rx
  obtain ⟨_, _, J⟩ := inst_of I ha
  obtain ⟨m, hF⟩ := I.fr
  refine PySem.W.len_K hF I.ok.mod.kin J hs hf ?_
  refine thn (run_at0 (vs := [.ref a]) F hr.in1 rfl hb (hx σ) I (.cons rfl .nil) q) fun r s' z => ?_
  obtain ⟨v, H', I', rv, n, rfl, h0, h1, q'⟩ := z
  obtain ⟨t, rfl⟩ := (show ∃ t, r = Value.int n t from rv)
  exact ⟨⟨h0, h1⟩, .int n, H', I'.tok _, ⟨_, rfl⟩, q'⟩
/-- the truth of x by the text's own __bool__ -/
theorem truthy_own {A : Around} {pins : List (Addr × Obj)} {σ : L2.St} {H : Hp} {s : Shared} {Q : Bool → Hp → Prop} {a dx : Addr} {fs : List (Str × V)} (S : Sm X.prog X.w X.K X.mg X.base C "__bool__" k ps sp) (hr : Room k A) (fr : A.frames = X.A.frames) (hx : Ps X E)
    (I : L2.Inv X pins σ H s) (ha : H a = some (.ins C dx fs)) (q : sp [.ref a] H (fun v H' => ∃ c, v = .bl c ∧ Q c H') (E σ)) : wpAny (model X.prog X.w) A (truthy (.ref a)) (TP X pins σ Q) X.xe s := by
  obtain ⟨f, fd, F, hs, hf, hb⟩ := S.ex
  obtain ⟨_, _, J⟩ := inst_of I ha
  obtain ⟨m, hF⟩ := I.fr
  refine PySem.W.truthy_K hF I.ok.mod.kin J hs hf ?_
  refine thn (run_at0 (vs := [.ref a]) F hr fr hb (hx σ) I (.cons rfl .nil) q) fun r s' z => ?_
  obtain ⟨v, H', I', rv, c, rfl, q'⟩ := z
  cases (show r = _ from rv)
  exact ⟨H', I', q'⟩
/-- bool(x) -/
def rOwnB (C : Addr) (sp : Sp) (E : L2.St → XK) : L2.St → List V → Hp → VK → Prop := fun σ xs H Q => ∃ a dx fs, xs = [.ref a] ∧ H a = some (.ins C dx fs) ∧ sp [.ref a] H (fun v H' => ∃ c, v = .bl c ∧ Q (.bl c) H') (E σ)
theorem call_ownBool (S : Sm X.prog X.w X.K X.mg X.base C "__bool__" k ps sp) (hr : Room (k + 2) X.A) (hx : Ps X E) : CallS X (.type "bool") (rOwnB C sp E) := by
  intro pins s σ H xs us Q I r hq
  obtain ⟨a, dx, fs, rfl, ha, q⟩ := hq
  obtain ⟨u, rfl, rx⟩ := vals1 r
  cases rx
  refine callType_newIn PySem.F.called_bool PySem.F.newNe_bool (PySem.F.typeCall_bool_1 _) (PySem.F.newCall_bool_1 _) (fun obj => PySem.F.args_object_init_2 obj _) PySem.F.entry_bool_new
    (S := fun A' R s' => A' = X.A.in1 ∧ s' = s ∧ R = wants (fun obj s₁ => s₁.TypeIs obj "bool" ∧ EP X pins σ Q obj s₁) X.xe) ?_ ⟨rfl, rfl, rfl⟩
  intro A' R s' h'
  obtain ⟨rfl, rfl, rfl⟩ := h'
  have f1 := PySem.F.conv_sub_bool
  unfold Builtin.«bool.__new__»
  have key := truthy_own (A := X.A.in1.in1) (Q := fun c H' => Q (.bl c) H') S (hr.in1.in1) rfl hx I ha q
  have key' : ∀ Q' : Bool → Shared → Prop, (∀ c s2, TP X pins σ (fun c H' => Q (.bl c) H') c s2 → Q' c s2) → wpAny (model X.prog X.w) X.A.in1.in1 (truthy (Value.ref a)) Q' X.xe s' := fun Q' h => thn key h
  have k2 : ∀ c s2, TP X pins σ (fun c H' => Q (.bl c) H') c s2 → (s2.TypeIs (.bool c) "bool" ∧ EP X pins σ Q (.bool c) s2) := fun c s2 z => by
    obtain ⟨H', I', q'⟩ := z
    exact ⟨rfl, .bl c, H', I', rfl, q'⟩
  clear key q I ha hx r
  obtain ⟨hp, g, d, tk, os⟩ := s'
  refine wpAny_bind ?_
  repeat (any_goals (first | assumption | ((with_reducible show wpAny _ _ (truthy _ >>= _) _ _ _); refine wpAny_bind (key' _ fun c s2 z => ?_)) | wp_step))
  all_goals exact k2 _ _ z
end
end GG

/-! GX: the text's errors (classes under GangError, whose __init__ stores the subject): raised, caught, asked. -/
namespace PySem
namespace GErr
open PySem.W PySem.Calls PyProof.Rows PySem.HandSPX
def iA (p1 p2 : Pos) : Arguments := { posonlyargs := [], args := [{ arg := "self", annotation := none, pos := p1 }, { arg := "subject", annotation := none, pos := p2 }], vararg := none, kwonlyargs := [], kw_defaults := [], kwarg := none, defaults := [] }
def iB (q1 q2 q3 q4 : Pos) : List Stmt := [.Assign [.Attribute (.Name "self" q1) "subject" q2] (.Name "subject" q3) q4]
def iS : Scope := { kind := .function, names := [(PySem.Str.ofString "self", .local), (PySem.Str.ofString "subject", .local)], isGenerator := false, isCoroutine := false, more := [] }
/-- what the written part says of the error class x, at C, whose __init__ is GangError's, at fI -/
structure ErrTxt (K : Frag) (mg : Str → Option Value) (x : Str) (C fI : Addr) : Prop where
  gC : mg x = some (.ref C)
  cls : ∃ nm q N bs bm sn sub ab col dd k0 k1 k2 k3 k5, K.lookup C = some (excClassObj nm q C N bs bm true sn sub ab col dd k0 k1 k2 k3 k5 "ValueError.__new__") ∧ refsVE bm = true
  sa : findIn K (.ref C) "__setattr__" = some (some (.builtin "object.__setattr__"))
  ga : findIn K (.ref C) "__getattribute__" = some (some (.builtin "BaseException.__getattribute__"))
  gg : findIn K (.ref C) "__getattr__" = some none
  noN : findIn K (.ref C) "subject" = some none
  iC : findIn K (.ref C) "__init__" = some (some (.ref fI))
  tC : typeIn K (.ref fI) = some (.type "function")
  kC : keepIn K (.ref C) = true
  exC : subIn K (.ref C) (.type "BaseException") = some true
  tyC : typeIn K (.ref C) = some (.type "type")
  hdC : hasDictIn K C = true
  haC : findIn K (.ref C) "__class__" = some (some (.builtin "object.__class__"))
  hnC : specialIn K (.builtin "object.__class__") "__get__" = some (some (.builtin "getset_descriptor.__get__"))
  htC : takesIn K (.builtin "object.__class__") = some true
  hmC : mroIn K C (.type "object") = some true
  fn : ∃ (oc : Value) (od : Option Addr) (doc pm : Value) (an : Option Addr) (cdv ct : Value) (osl : Array (Option Value)) (p1 p2 q1 q2 q3 q4 : Pos),
    K.lookup fI = some ⟨oc, od, .func (fnOf "__init__" "GangError.__init__" (iA p1 p2) (iB q1 q2 q3 q4) iS .none .none doc pm an cdv ct), osl⟩ ∧ codeIn K cdv "GangError.__init__" = true
theorem one_size (v : Value) : [v].length ≤ sizeLine := by
  rw [sizeLine_eq]
  exact (by decide : 1 ≤ 16777216)
theorem ldC {M : Model} {s : Shared} {name : Str} {scope : Scope} {L a : Addr} {cd : Value} {m : Str → Option Value} {x : Str} {pos : Pos} {v : Value} {Q : Value → Shared → Prop} {A : Around} {E : Value → Shared → Prop} (hn : s.heap.Ns L m) (hv : m x = some v) (h : Q v s)
    (hk : scope.kind = .function := by rfl) (hl : (envOfC name scope L a cd).kindOf x = some .local := by rfl) (hd : (x == ("__debug__" : Str)) = false := by decide) :
    wpAny M A (eval (.Name x pos) (envOfC name scope L a cd)) Q E s := wpAny_Name (wpAny_loadName_local hk hl hn hv h) hd
/-- what __init__ leaves of a fresh exception at x -/
structure InitEnd (h h' : Heap) (x C dx t1 : Addr) (v : Value) : Prop where
  keep : ∀ b o, b ≠ x → h.get? b = some o → h'.get? b = some o
  obj : h'.get? x = some { cls := .ref C, dict := some dx, data := .fields #[.ref t1, .none, .none, .none, .bool false, .none] }
  dbig : h.objs.size ≤ dx
  dne : dx ≠ x
  ns : h'.Ns1 dx (fun y => if y = "subject" then some v else none)
/-- a made error -/
structure OwnMade (h h' : Heap) (e C d : Addr) (v : Value) : Prop where
  keep : ∀ b o, h.get? b = some o → h'.get? b = some o
  new : h.objs.size ≤ e
  obj : ∃ oe vs, h'.get? e = some oe ∧ oe.cls = .ref C ∧ oe.dict = some d ∧ oe.data = .fields vs ∧ vs[1]? = some .none ∧ vs[2]? = some .none
  dbig : h.objs.size ≤ d
  dne : d ≠ e
  ns : h'.Ns1 d (fun y => if y = "subject" then some v else none)
section
variable {prog : Program} {w : World} {A : Around} {E : Value → Shared → Prop} {R : Result → Shared → Prop} {s : Shared} {K : Frag} {mg : Str → Option Value} {xn : Str} {C fI : Addr}
theorem err_init (T : ErrTxt K mg xn C fI) {x t0 : Addr} {v : Value} (X : K.In s.heap) (hlim : s.heap.NoLimit) (hx : s.heap.get? x = some (excO C t0)) (hnx : K.lookup x = none) (hroom : A.depth < recursionLimit)
    (hq : ∀ h' tk dx, InitEnd s.heap h' x C dx t0 v → R (.ok (.ret .none)) { s with heap := h', toks := tk }) :
    codeAny (model prog w) A (.call (.ref fI) ⟨[.ref x, v], []⟩) R s := by
  obtain ⟨oc, od, doc, pm, an, cdv, ct, osl, p1, p2, q1, q2, q3, q4, ho, hcd⟩ := T.fn
  obtain ⟨nm, q, N, bs, bm, sn, sub, ab, col, dd, k0, k1, k2, k3, k5, hC, hbm⟩ := T.cls
  have hcl : clsIn K C = some { name := nm, bases := bs, mro := .ref C :: bm, ns := N, qualname := q, hasDict := true, slotNames := sn, subclasses := sub, abstract := ab, collection := col, hasDel := false } := by unfold clsIn; rw [hC] <;> rfl
  refine Att.call_fn (binds := [("self", .ref x), ("subject", v)]) X hlim ho hcd hroom (BindsTo.of_eq (by first | rfl | with_unfolding_all rfl)) (by first | rfl | decide | with_unfolding_all rfl) (fun s₁ IC => ?_) rfl rfl rfl
  obtain ⟨h₁, tk₁, rfl⟩ := IC.toInCall.same
  have k : ∀ b o, s.heap.get? b = some o → h₁.get? b = some o := IC.toInCall.keep
  have hn := IC.toInCall.ns
  have hxL : s.heap.objs.size ≠ x := Nat.ne_of_gt (Heap.lt_size hx)
  have X₁ : K.In h₁ := X.keeps k
  have hx₁ := k _ _ hx
  show wpAny _ _ (execs _ _) _ _ _
  refine wpAny_execs_cons (plainObj_wpAny_Assign_Attribute ?_)
  refine ldC (v := v) hn (by first | rfl | with_unfolding_all rfl | kernel_rfl) (ldC (v := .ref x) hn (by first | rfl | with_unfolding_all rfl | kernel_rfl) ?_)
  refine set_plain X₁ (ox := excO C t0) (od := none) ⟨hx₁, rfl, rfl, trivial⟩ T.sa ?_
  refine exc_osa X₁ hx₁ hcl (show refsVE (.ref C :: bm) = true from hbm) rfl T.noN (fun h₃ tk₃ dx k₃ dn dne hx₃ hn₃ => ?_)
  show wpAny _ _ (execs _ _) _ _ _
  have z : s.heap.objs.size < h₁.objs.size := hn.lt
  exact wpAny_execs_nil (hq h₃ tk₃ dx ⟨fun b o hb e => k₃ b o hb (k b o e), hx₃, Nat.le_of_lt (Nat.lt_of_lt_of_le z dn), dne, hn₃⟩)
theorem err_made (T : ErrTxt K mg xn C fI) {v : Value} (X : K.In s.heap) (hlim : s.heap.NoLimit) (hroom : A.depth + 1 < recursionLimit)
    (hq : ∀ h' tk e d, OwnMade s.heap h' e C d v → R (.ok (.ret (.ref e))) { s with heap := h', toks := tk }) :
    codeAny (model prog w) A (.call (.ref C) ⟨[v], []⟩) R s := by
  obtain ⟨nm, q, N, bs, bm, sn, sub, ab, col, dd, k0, k1, k2, k3, k5, hC, hbm⟩ := T.cls
  obtain ⟨hp, g, dr, tk, os⟩ := s
  have k : ∀ b o, hp.get? b = some o → ((hp.push (kdv_tup [v])).push (excO C hp.objs.size)).get? b = some o := fun b o e => Heap.get?_push_of_some _ (Heap.get?_push_of_some _ e)
  have hget : ((hp.push (kdv_tup [v])).push (excO C hp.objs.size)).get? (hp.objs.size + 1) = some (excO C hp.objs.size) := by heap_get
  have hnx : K.lookup (hp.objs.size + 1) = none := by
    cases e : K.lookup (hp.objs.size + 1) with
    | none => rfl
    | some o =>
      have z : hp.get? (hp.objs.size + 1) = some o := X _ _ e
      exact absurd (Nat.lt_of_succ_lt (Heap.lt_size z)) (Nat.lt_irrefl _)
  refine call_own F.excBase_ValueError (fun X => refsVE_contains X bm hbm) (X _ _ hC) (looks_findIn X T.iC) (fun self => bind_fn X self T.tC) (one_size v) ?_
  refine err_init (s := ⟨(hp.push (kdv_tup [v])).push (excO C hp.objs.size), g, dr, tk, os⟩) T (X.keeps k) (hlim.keeps k) hget hnx ?_ fun h' tk' dx ⟨k', hx, dn, dne, hns⟩ => ?_
  · show A.depth + 1 < recursionLimit
    exact hroom
  · have old : ∀ b o, hp.get? b = some o → h'.get? b = some o := fun b o e => k' b o (Nat.ne_of_lt (Nat.lt_succ_of_lt (Heap.lt_size e))) (k b o e)
    have z : hp.objs.size + 1 + 1 ≤ dx := by
      first
        | (simpa only [Heap.size_push] using dn)
        | exact dn
        | (have q := dn; rw [Heap.size_push, Heap.size_push] at q; exact q)
    exact ⟨rfl, hq h' tk' (hp.objs.size + 1) dx ⟨old, Nat.le_succ _, ⟨_, _, hx, rfl, rfl, rfl, rfl, rfl⟩, Nat.le_trans (Nat.le_trans (Nat.le_succ _) (Nat.le_succ _)) z, dne, hns⟩⟩
end
end GErr
end PySem
namespace GG
open PySem L2 PyProof.Rows
abbrev subj (v : V) : List (Str × V) := [(("subject" : Str), v)]
theorem relO_subj {v : V} {v' : Value} (r : RelV v v') (f : Str) : RelO (List.lookup f (subj v)) (if f = "subject" then some v' else none) := by
  by_cases hw : f = "subject"
  · subst hw
    rw [if_pos rfl]
    have q : List.lookup ("subject" : Str) (subj v) = some v := by simp [List.lookup]
    rw [q]
    exact r
  · rw [if_neg hw]
    have qw : (f == ("subject" : Str)) = false := by simpa using hw
    have q2 : List.lookup f (subj v) = none := by simp [List.lookup, qw]
    rw [q2]
    trivial
section
variable {X : Cx} {C fI : Addr} {xn : Str}
/-- Err(e) -/
def tMkErr (C : Addr) (ta : TA) : L2.St → Hp → XK → Prop := fun σ H Q => ta σ H fun vs H1 => ∃ v, vs = [v] ∧ ∀ d, H1 d = none → Q (.ref C) (some d) (upd H1 d (.xd (subj v)))
theorem pmk_err {a : Expr} {ta : TA} {p pos : Pos} {k : Nat} (T : PySem.GErr.ErrTxt X.K X.mg xn C fI) (hr : Room k X.A) (ha : PA X [a] ta) (hg : Gl X xn := by rfl) (hdb : (xn == ("__debug__" : Str)) = false := by decide)
    (he : starEach (a :: []) X.env = (false, eval a X.env) :: starEach [] X.env := by rfl) (hpl : (backTo pos (starEach [] X.env)).any (·.1) = false := by rfl) :
    L2N.PMk X (.Call (.Name xn p) [a] [] pos) (tMkErr C ta) := by
  intro pins s σ H Q I h
  refine wpAny_Call_Name_kw (ld_glob I hg T.gC ?_ hdb)
  refine PySem.W.callWith_K (h₀ := X.base) I.ok.mod.kin T.kC (thn (ha.run pos pins s σ H _ I h) fun us s1 hh => ?_) he hpl
  obtain ⟨vs, H1, I1, r1, v, ev, q1⟩ := hh
  subst ev
  refine ⟨I1.kIn, ?_⟩
  cases r1 with
  | cons rv rn =>
    rename_i v' us'
    cases rn
    show wpAny _ _ (call (.ref C) [v']) _ _ _
    have hlim := I1.nolimit
    obtain ⟨hp, g, dr, tk, os⟩ := s1
    refine wpAny_call (PySem.GErr.err_made T I1.kIn hlim (by have := hr.dp; omega) fun h' tk' e d M => ?_)
    show L2N.MkP X pins σ Q (.ref e) ⟨h', g, dr, tk', os⟩
    obtain ⟨oe, fv, hoe, hc, hd, hdat, h1, h2⟩ := M.obj
    have hns := M.ns
    obtain ⟨G', g1, g2⟩ := restrict h' fun b => decide (b ≠ e)
    have gk : ∀ b, b ≠ e → G'.get? b = h'.get? b := fun b hb => g1 b (decide_eq_true hb)
    have ge : G'.get? e = none := g2 e (by simp)
    have old : ∀ b o, hp.get? b = some o → G'.get? b = some o := fun b o q => (gk b (Nat.ne_of_lt (Nat.lt_of_lt_of_le (Heap.lt_size q) M.new))).trans (M.keep b o q)
    have ob : ObjOk X.prog X.w (upd H1 d (.xd (subj v))) G' d (.xd (subj v)) :=
      ⟨_, hns.at (fun o q => (gk d M.dne).trans q), fun f => relO_subj rv f⟩
    have J : L2.Inv X pins σ (upd H1 d (.xd (subj v))) ⟨G', g, dr, tk', os⟩ := I1.laid (t' := tk') old M.dbig ob
    refine ⟨e, oe, fv, ⟨G', g, dr, tk', os⟩, _, .ref C, some d, rfl, J, fun b o q => ?_, ge, hoe, ⟨hc, hd, fun vs e => by rw [hdat] at e; cases e; exact h2⟩, hdat, h1, ?_, rfl, I1.bare, raises_own T.exC T.tyC, q1 d (I1.hok.fresh M.dbig)⟩
    · by_cases hb : b = e
      · have q' : G'.get? b = some o := q
        rw [hb, ge] at q'; cases q'
      · exact (gk b hb).symm.trans q
    · rw [upd_ne (Ne.symm M.dne)]
      exact I1.hok.fresh M.new
/-- raise Err(e) -/
def tRaiseErr (C : Addr) (W : WX) (ta : TA) : TS := fun _ σ H => tMkErr C ta σ H fun cls d H' => W cls d σ H'
theorem ps_raiseErr {a : Expr} {ta : TA} {W : WX} {p pos pos2 : Pos} {k : Nat} (T : PySem.GErr.ErrTxt X.K X.mg xn C fI) (hr : Room k X.A) (tk : L2N.Takes X W) (ha : PA X [a] ta) (hc : X.calm = true := by rfl) (hg : Gl X xn := by rfl) (hdb : (xn == ("__debug__" : Str)) = false := by decide)
    (he : starEach (a :: []) X.env = (false, eval a X.env) :: starEach [] X.env := by rfl) (hpl : (backTo pos (starEach [] X.env)).any (·.1) = false := by rfl) :
    PS X (.Raise (some (.Call (.Name xn p) [a] [] pos)) none pos2) (tRaiseErr C W ta) := L2N.ps_raise hc tk (pmk_err T hr ha hg hdb he hpl)
/-- e.subject, e the exception that the suite holds (at a; its class cls, its dict d) -/
def tSubj (K : PySem.W.Frag) (mg : Str → Option Value) (a : Addr) (cls : Value) (d : Option Addr) (te : TE) : TE := fun σ H Q => te σ H fun x H1 => x = .ref a ∧ ∃ (n : Str) (C fI dd : Addr) (v : V), cls = .ref C ∧ PySem.GErr.ErrTxt K mg n C fI ∧ d = some dd ∧ H1 dd = some (.xd (subj v)) ∧ Q v H1
theorem pe_subj (K : PySem.W.Frag) (mg : Str → Option Value) {a : Addr} {oe : Obj} {cls : Value} {d : Option Addr} {e : Expr} {te : TE} {pos : Pos} (hz : Zc cls d oe) (hf : ∃ vs, oe.data = .fields vs) (he : PE X e te) (hp : (a, oe) ∈ X.pn := by exact List.Mem.head _)
    (hb : attributeBase e "subject" X.env (eval e X.env) = eval e X.env := by rfl) (hK : X.K = K := by rfl) (hM : X.mg = mg := by rfl) :
    PE X (.Attribute e "subject" pos) (tSubj K mg a cls d te) := by
  subst hK
  subst hM
  refine ⟨fun pins s σ H Q I h => attr_of hb (thn (he.run pins s σ H _ I h) fun u s1 hh => ?_)⟩
  obtain ⟨x, H1, I1, rx, ex, n, C, fI, dd, v, ec, T, ed, ea, q⟩ := hh
  subst ex
  obtain rfl : u = Value.ref a := rx
  subst ec
  subst ed
  obtain ⟨ha, _⟩ := I1.pin (a, oe) (List.mem_append_left _ hp)
  obtain ⟨vs, hd⟩ := hf
  have hx : ObjOk X.prog X.w H1 s1.heap dd (.xd (subj v)) := I1.hok dd _ ea
  obtain ⟨mA, hns, hr⟩ := hx
  obtain ⟨od, ho, hl⟩ := lookIn_ns hns
  have l : List.lookup ("subject" : Str) (subj v) = some v := by simp [List.lookup]
  obtain ⟨u, hu, ru⟩ := RelO.some_of (v := v) (o := mA "subject") (by rw [← l]; exact hr "subject")
  have J : PySem.W.InstAt s1.heap a oe C (some od) := ⟨ha, hz.1, by unfold PySem.W.notCls; rw [hd] <;> rfl, by rw [hz.2]; exact ho⟩
  exact HandSPX.exc_get I1.kIn J T.ga T.gg T.exC (PySem.W.findObj_own T.hdC T.noN rfl (by rw [hl, hu])) (handed_of ru) ⟨v, H1, I1.tok _, ru, q⟩
/-- isinstance(e, c), e the exception that the suite holds -/
def rIsX (K : PySem.W.Frag) (mg : Str → Option Value) (a : Addr) (cls : Value) (d : Option Addr) : List V → Hp → VK → Prop := fun xs H Q =>
  ∃ (n : Str) (C fI dd : Addr) (v : V) (c : V) (cv : Value) (b : Bool), xs = [.ref a, c] ∧ cls = .ref C ∧ PySem.GErr.ErrTxt K mg n C fI ∧ d = some dd ∧ H dd = some (.xd (subj v)) ∧ ClsV c cv ∧ PySem.W.kitOne K (.ref C) cv = some b ∧ Q (.bl b) H
theorem call_isX (K : PySem.W.Frag) (mg : Str → Option Value) {a : Addr} {oe : Obj} {cls : Value} {d : Option Addr} (hz : Zc cls d oe) (hf : ∃ vs, oe.data = .fields vs) (hp : (a, oe) ∈ X.pn := by exact List.Mem.head _) (hK : X.K = K := by rfl) (hM : X.mg = mg := by rfl) : CallR X (.builtin "isinstance") (rIsX K mg a cls d) := by
  subst hK
  subst hM
  intro pins s σ H xs us Q I r h
  obtain ⟨n, C, fI, dd, v, c, cv, b, rfl, ec, T, ed, ea, hcv, hk, q⟩ := h
  subst ec
  subst ed
  obtain ⟨u1, u2, rfl, r1, r2⟩ := vals2 r
  cases r1
  have e2 := hcv.eq r2
  subst e2
  obtain ⟨hget, _⟩ := I.pin (a, oe) (List.mem_append_left _ hp)
  obtain ⟨vs, hd⟩ := hf
  have hx : ObjOk X.prog X.w H s.heap dd (.xd (subj v)) := I.hok dd _ ea
  obtain ⟨mA, hns, hr⟩ := hx
  obtain ⟨od, ho, hl⟩ := lookIn_ns hns
  have J : PySem.W.InstAt s.heap a oe C (some od) := ⟨hget, hz.1, by unfold PySem.W.notCls; rw [hd] <;> rfl, by rw [hz.2]; exact ho⟩
  have hcl : (PySem.W.clsIn X.K C).isSome = true := by
    obtain ⟨cd, hc, _⟩ := PySem.W.any_some T.hdC
    rw [hc]
    rfl
  exact PySem.W.kia_one (PySem.W.kitx_exc (x := a) (ox := oe) (od := some od) hcl T.ga T.gg T.exC T.haC T.hnC T.htC T.hmC) I.kIn J hk (fun z => nomatch z) fun tk => ⟨.bl b, H, I.tok tk, rfl, q⟩
/-! ### try .. except C as n: suite -/
theorem pss_imp {sts : List Stmt} {t t' : TS} (h : PSs X sts t) (hi : ∀ D σ H, t' D σ H → t D σ H) : PSs X sts t' := ⟨fun pins s σ H D I q => h.run pins s σ H D I (hi D σ H q)⟩
variable {x n : Str} {c : Value} {i : Nat} {body suite : List Stmt} {b₀ : Stmt} {np pos pos' : Pos} {tb : WX → List (Addr × Obj) → (Value → Shared → Prop) → TS} {ts : Addr → Obj → Value → Option Addr → List (Addr × Obj) → TS} {Wout : WX}
def tAll (ts : Addr → Obj → Value → Option Addr → List (Addr × Obj) → TS) : Addr → Value → Option Addr → TS := fun a cls d D σ H => ∀ oe pn, ts a oe cls d pn D σ H
/-- the try with its suite, as a reading -/
def tTryAs (K : PySem.W.Frag) (c : Value) (i : Nat) (ts : Addr → Obj → Value → Option Addr → List (Addr × Obj) → TS) (Wout : WX) (tb : WX → List (Addr × Obj) → (Value → Shared → Prop) → TS) : TS := fun D σ H => ∀ pn xe, tb (wAs K c i (tAll ts) Wout D) pn xe D σ H
def tTryOnly (K : PySem.W.Frag) (c : Value) (ts : Addr → Obj → Value → Option Addr → List (Addr × Obj) → TS) (Wout : WX) (tb : WX → List (Addr × Obj) → (Value → Shared → Prop) → TS) : TS := fun D σ H => ∀ pn xe, tb (wOnly K c (tAll ts) Wout D) pn xe D σ H
theorem ps_tryAs (hN : X.N.Nodup) (hi : X.N[i]? = some n) (hc : Names X x c) (tk : L2N.Takes X Wout)
    (hb : ∀ (W : WX) (pn : List (Addr × Obj)) (xe : Value → Shared → Prop), L2N.Takes (X.tr pn xe) W → PassesOwn (model X.prog X.w) X.A X.env xe → PSs (X.tr pn xe) body (tb W pn xe))
    (hsu : ∀ (a : Addr) (oe : Obj) (cls : Value) (d : Option Addr) (pn : List (Addr × Obj)), L2N.Zn cls d oe → (∃ vs, oe.data = .fields vs) → PSs (X.suite a ((a, oe) :: pn)) (b₀ :: suite) (ts a oe cls d pn))
    (hs : X.stack = X.env :: X.outer := by rfl) (hf : X.env.frame = some X.env.locals := by rfl) (hln : X.env.kindOf n = some .local := by rfl) :
    PS X (.Try body [.ExceptHandler (some (.Name x np)) (some n) (b₀ :: suite) pos'] [] [] pos) (tTryAs X.K c i ts Wout tb) :=
  L2N.ps_try_as (tb := fun W D σ H => ∀ pn xe, tb W pn xe D σ H) (ts := tAll ts) hs hf hN hi hln hc tk (fun W pn xe tk po => pss_imp (hb W pn xe tk po) fun D σ H q => q pn xe)
    fun a oe cls d pn hz hfs => pss_imp (hsu a oe cls d pn hz hfs) fun D σ H q => q oe pn
theorem ps_tryOnly (hc : Names X x c) (tk : L2N.Takes X Wout)
    (hb : ∀ (W : WX) (pn : List (Addr × Obj)) (xe : Value → Shared → Prop), L2N.Takes (X.tr pn xe) W → PassesOwn (model X.prog X.w) X.A X.env xe → PSs (X.tr pn xe) body (tb W pn xe))
    (hsu : ∀ (a : Addr) (oe : Obj) (cls : Value) (d : Option Addr) (pn : List (Addr × Obj)), L2N.Zn cls d oe → (∃ vs, oe.data = .fields vs) → PSs (X.suite a ((a, oe) :: pn)) (b₀ :: suite) (ts a oe cls d pn))
    (hs : X.stack = X.env :: X.outer := by rfl) (hf : X.env.frame = some X.env.locals := by rfl) :
    PS X (.Try body [.ExceptHandler (some (.Name x np)) none (b₀ :: suite) pos'] [] [] pos) (tTryOnly X.K c ts Wout tb) :=
  L2N.ps_try_many (tb := fun W D σ H => ∀ pn xe, tb W pn xe D σ H) (l := [(c, tAll ts)]) hs hf tk (fun W pn xe tk po => pss_imp (hb W pn xe tk po) fun D σ H q => q pn xe)
    (.cons hc (fun a oe cls d pn hz hfs => pss_imp (hsu a oe cls d pn hz hfs) fun D σ H q => q oe pn) .nil)
end
end GG

/-! GS: rules for any operands (u_*), and the readings step by step, backwards (st_*). -/
namespace GG
open PySem L2 PyProof.Rows

/-! ### rules for any operands -/
def CM (i j : Int) : Prop := IntMulOk i j
theorem CM.left {i j : Int} (h1 : -(2 ^ 64) < i) (h2 : i < 2 ^ 64) : CM i j := IntMulOk.of_left (intBits_le_64 h1 h2)
theorem CM.right {i j : Int} (h1 : -(2 ^ 64) < j) (h2 : j < 2 ^ 64) : CM i j := IntMulOk.of_right (intBits_le_64 h1 h2)
theorem CM.wide {i j : Int} {a b : Nat} (ha : i.natAbs < 2 ^ a) (hb : j.natAbs < 2 ^ b) (h : a + b ≤ 900000) : CM i j :=
  (wide_mul (a := a + 1) (b := b + 1) (Nat.lt_of_lt_of_le ha (Nat.pow_le_pow_right (by decide) (Nat.le_succ a))) (Nat.lt_of_lt_of_le hb (Nat.pow_le_pow_right (by decide) (Nat.le_succ b))) (Nat.succ_pos _) (Nat.succ_pos _) (by omega)).ok
def CD (_ j : Int) : Prop := j ≠ 0 ∧ j.natAbs.log2 < 9000
def uAdd (K : PySem.W.Frag) : R2 := fun x y H Q => (rI0 fun i j => .int (i + j)) x y H Q ∨ ((∃ i j, x = .str i ∧ y = .str j ∧ i.length + j.length ≤ sizeLine ∧ Q (.str (i ++ j)) H) ∨ (rCat x y H Q ∨ rCatT K x y H Q))
def uMul : R2 := fun x y H Q => (rI CM fun i j => .int (i * j)) x y H Q ∨ rRep x y H Q
def uSub : R2 := rI0 fun i j => .int (i - j)
def uFdiv : R2 := rI CD fun i j => .int (i.fdiv j)
def uMod : R2 := rI (fun _ j => j ≠ 0) fun i j => .int (i.fmod j)
def uPow : R2 := rI CPow fun i j => .int (i ^ j.toNat)
def uEq (K : PySem.W.Frag) : R2 := fun x y H Q => rEq x y H Q ∨ rEqD K x y H Q
def uNe (K : PySem.W.Frag) : R2 := fun x y H Q => rNe x y H Q ∨ rNeD K x y H Q
def uLt : R2 := rI0 fun i j => .bl (decide (i < j))
def uLe : R2 := rI0 fun i j => .bl (decide (i ≤ j))
def uGt : R2 := rI0 fun i j => .bl (decide (j < i))
def uGe : R2 := rI0 fun i j => .bl (decide (j ≤ i))
def uIn (K : PySem.W.Frag) : R2 := rIn K false
def uNotin (K : PySem.W.Frag) : R2 := rIn K true
def uIx (K : PySem.W.Frag) : R2 := rIx K
def uSet : TSet := rSetL
def cInt : List V → Hp → VK → Prop := fun xs H Q => ((∃ i, xs = [.int i] ∧ Q (.int i) H) ∨ ∃ k, xs = [.bl k] ∧ Q (.int (if k then 1 else 0)) H)
def cLen (K : PySem.W.Frag) : List V → Hp → VK → Prop := fun xs H Q => ∃ x n, xs = [x] ∧ LenV K x H n ∧ Q (.int n) H
def cBool : List V → Hp → VK → Prop := fun xs H Q => (∃ i, xs = [.int i] ∧ Q (.bl (i != 0)) H) ∨ ∃ k, xs = [.bl k] ∧ Q (.bl k) H
section
variable {X : Cx}
theorem u_add (K : PySem.W.Frag) (hK : X.K = K := by rfl) : OpR X (binaryOp .Add) (uAdd K) := by subst hK; exact op_add.or (op_add_str.or (op_cat.or op_catT))
theorem u_sub : OpR X (binaryOp .Sub) uSub := op_sub
theorem u_mul : OpR X (binaryOp .Mult) uMul := OpR.or (opI fun _ _ _ _ _ _ _ hc q => mul_int q hc) op_rep
theorem u_fdiv : OpR X (binaryOp .FloorDiv) uFdiv := opI fun _ _ _ _ _ _ _ hc q => floordiv_int hc.1 q (.inl (PyProof.noPylong_of_log2 hc.2))
theorem u_mod : OpR X (binaryOp .Mod) uMod := op_modN
theorem u_pow : OpR X (binaryOp .Pow) uPow := op_pow
theorem u_eq (K : PySem.W.Frag) (hu : X.A.units + 64 < cLine) (hK : X.K = K := by rfl) : OpR X (compareOp .Eq) (uEq K) := by subst hK; exact op_eq.or (op_eqD hu)
theorem u_ne (K : PySem.W.Frag) (hu : X.A.units + 64 < cLine) (hK : X.K = K := by rfl) : OpR X (compareOp .NotEq) (uNe K) := by subst hK; exact op_ne.or (op_neD hu)
theorem u_lt : OpR X (compareOp .Lt) uLt := op_lt
theorem u_le : OpR X (compareOp .LtE) uLe := op_le
theorem u_gt : OpR X (compareOp .Gt) uGt := op_gt
theorem u_ge : OpR X (compareOp .GtE) uGe := op_ge
theorem u_in (K : PySem.W.Frag) (hK : X.K = K := by rfl) : OpR X (compareOp .In) (uIn K) := by subst hK; exact op_in_seq
theorem u_notin (K : PySem.W.Frag) (hK : X.K = K := by rfl) : OpR X (compareOp .NotIn) (uNotin K) := by subst hK; exact op_notIn_seq
theorem u_ix (K : PySem.W.Frag) (hK : X.K = K := by rfl) : IxR X (uIx K) := by subst hK; exact ix_seq
theorem u_set : PSet X uSet := set_list
theorem c_int : CallR X (.type "int") cInt := call_int1
theorem c_len (K : PySem.W.Frag) (hK : X.K = K := by rfl) : CallR X (.builtin "len") (cLen K) := by subst hK; exact call_len
theorem c_bool : CallR X (.type "bool") cBool := call_bool1
section
variable (K : PySem.W.Frag) {e o value tg : Expr} {f : Str} {pos pos' : Pos} {ta tv : TE} {T : String} {as : TA} {r : V → List V → Hp → VK → Prop} {st : Stmt} {n : Nat} {gs : TGs}
theorem pe_fldK (h : PE X e (tFld X.K ta f)) (hK : X.K = K := by rfl) : PE X e (tFld K ta f) := by subst hK; exact h
theorem ps_fldK (h : PS X st (sFld X.K ta tv f)) (hK : X.K = K := by rfl) : PS X st (sFld K ta tv f) := by subst hK; exact h
theorem pe_bmK (h : PE X e (tBM X.K T r ta as)) (hK : X.K = K := by rfl) : PE X e (tBM K T r ta as) := by subst hK; exact h
theorem pe_bm0K (h : PE X e (tBM0 X.K T r ta)) (hK : X.K = K := by rfl) : PE X e (tBM0 K T r ta) := by subst hK; exact h
theorem pi_listK (h : PI X tg e (iList X.K ta)) (hK : X.K = K := by rfl) : PI X tg e (iList K ta) := by subst hK; exact h
theorem pi_tupK (h : PI X tg e (iTup X.K ta)) (hK : X.K = K := by rfl) : PI X tg e (iTup K ta) := by subst hK; exact h
theorem pg_tupK (h : PG X e (gTup X.K n gs)) (hK : X.K = K := by rfl) : PG X e (gTup K n gs) := by subst hK; exact h
theorem pe_lcV (vs : List Nat) {ws : List Nat} {wi : TI} {g : TG} {tt : TT} {te : TE} (h : PE X e (tLc wi g tt te ws)) (hv : ws = vs := by rfl) : PE X e (tLc wi g tt te vs) := by subst hv; exact h
theorem ps_lcV (vs : List Nat) {ws : List Nat} {wi : TI} {g : TG} {tt : TT} {te : TE} (h : PS X st (tAsg (tLc wi g tt te ws) (gName n))) (hv : ws = vs := by rfl) : PS X st (tAsg (tLc wi g tt te vs) (gName n)) := by subst hv; exact h
theorem c_isi (hK : X.K = K := by rfl) : CallR X (.builtin "isinstance") (rIsi K) := by subst hK; exact call_isi
end
theorem m_append : MtR X "list.append" rAppend := mt_append
theorem m_popAt : MtR X "list.pop" rPopAt := mt_popAt
theorem m_pop : MtR X "list.pop" rPop := mt_pop
end

/-! ### heaps: Ext (grown), But l (grown, the object at l changed) -/
def Ext (H H' : Hp) : Prop := ∀ a o, H a = some o → H' a = some o
def But (l : Addr) (H H' : Hp) : Prop := ∀ a o, a ≠ l → H a = some o → H' a = some o
theorem Ext.rfl {H : Hp} : Ext H H := fun _ _ h => h
theorem Ext.trans {H H1 H2 : Hp} (a : Ext H H1) (b : Ext H1 H2) : Ext H H2 := fun x o h => b x o (a x o h)
theorem Ext.look {H H' : Hp} {a : Addr} {o : HO} (e : Ext H H') (h : H a = some o) : H' a = some o := e a o h
theorem Ext.new {H : Hp} {p : Addr} {o : HO} (h : H p = none) : Ext H (upd H p o) := fun a u e => by rw [upd_ne (ne_of_none e h)]; exact e
theorem Ext.free {H H' : Hp} (e : Ext H H') {l : Addr} (h : H' l = Option.none) : H l = Option.none := Same.free e h
theorem Ext.but {H H' : Hp} {l : Addr} (e : Ext H H') : But l H H' := fun a o _ h => e a o h
theorem But.rfl {H : Hp} {l : Addr} : But l H H := fun _ _ _ h => h
theorem But.trans {H H1 H2 : Hp} {l : Addr} (a : But l H H1) (b : But l H1 H2) : But l H H2 := fun x o n h => b x o n (a x o n h)
theorem But.look {H H' : Hp} {l a : Addr} {o : HO} (e : But l H H') (n : a ≠ l) (h : H a = some o) : H' a = some o := e a o n h
/-- .. where the two objects are of unlike kinds -/
theorem But.lookK {H H' : Hp} {l a : Addr} {o u : HO} (e : But l H H') (hl : H l = some u) (h : H a = some o) (n : o ≠ u) : H' a = some o := e a o (ne_of h hl n) h
theorem But.upd {H : Hp} {l : Addr} {o : HO} : But l H (L2.upd H l o) := fun a u n e => by rw [upd_ne n]; exact e
/-- what is new behind l's change -/
theorem But.ext {H0 H H' : Hp} {l : Addr} (e : But l H H') (e0 : Ext H0 H) (h : H0 l = none) : Ext H0 H' := fun a o q => e a o (ne_of_none q h) (e0 a o q)
theorem But.exts {H H1 H2 : Hp} {l : Addr} (a : But l H H1) (b : Ext H1 H2) : But l H H2 := a.trans b.but
theorem Ext.buts {H H1 H2 : Hp} {l : Addr} (a : Ext H H1) (b : But l H1 H2) : But l H H2 := a.but.trans b
theorem Ext.sq {K : PySem.W.Frag} {H H' : Hp} {a : Addr} {xs : List V} (e : Ext H H') (h : SqL K H a xs) : SqL K H' a xs := Same.seq e h

/-! ### statements, run with their four ends -/
def Run (t : TS) (nx : L2.St → Hp → Prop) (rt : VK) (bk ct : L2.St → Hp → Prop) (σ : L2.St) (H : Hp) : Prop := t ⟨nx, rt, bk, ct⟩ σ H
abbrev NoE : L2.St → Hp → Prop := fun _ _ => False
section
variable {K : PySem.W.Frag} {nx bk ct : L2.St → Hp → Prop} {rt : VK} {σ : L2.St} {H : Hp} {t u : TS} {te ta tb tc : TE} {tt tu : TT} {as : TA} {Q : VK} {QB : Bool → Hp → Prop} {QA : List V → Hp → Prop} {v x y : V} {E : L2.St → XK} {sp : Sp} {D : Ends}
theorem run_of (h : Run t D.nx D.rt D.bk D.ct σ H) : t D σ H := h
theorem run_start {σ' : L2.St} (e : σ' = σ) (h : Run t (fun _ H' => Q .non H') Q NoE NoE σ H) : t { nx := fun _ H' => Q .non H', rt := Q } σ' H := by
  subst e
  exact h
theorem run_seq (h : Run t (fun σ' H' => Run u nx rt bk ct σ' H') rt bk ct σ H) : Run (tSeq t u) nx rt bk ct σ H := h
theorem run_next (h : nx σ H) : Run tNext nx rt bk ct σ H := h
theorem run_asg {i : Nat} (h : te σ H fun x H1 => nx (σ.set i (some x)) H1) : Run (tAsg te (gName i)) nx rt bk ct σ H := h
theorem run_asgG {g : TG} (h : te σ H fun x H1 => g x σ H1 nx) : Run (tAsg te g) nx rt bk ct σ H := h
theorem run_drop (h : te σ H fun _ H1 => nx σ H1) : Run (tDrop te) nx rt bk ct σ H := h
theorem run_ret (h : te σ H rt) : Run (tRet te) nx rt bk ct σ H := h
theorem run_retN (h : rt .non H) : Run tRetN nx rt bk ct σ H := h
theorem run_break (h : bk σ H) : Run tBreak nx rt bk ct σ H := h
theorem run_cont (h : ct σ H) : Run tCont nx rt bk ct σ H := h
/-- the two ways of a test -/
def Br (b : Bool) (A B : Prop) : Prop := if b = true then A else B
theorem run_ifS (h : tt σ H fun b H1 => Br b (Run t nx rt bk ct σ H1) (Run u nx rt bk ct σ H1)) : Run (tIfS tt t u) nx rt bk ct σ H := h
theorem br_t {A B : Prop} (h : A) : Br true A B := iteT h
theorem br_f {A B : Prop} (h : B) : Br false A B := iteF h
theorem br_d {p A B : Prop} [Decidable p] (h1 : p → A) (h2 : ¬ p → B) : Br (decide p) A B := by
  by_cases h : p
  · rw [decide_eq_true h]; exact br_t (h1 h)
  · rw [decide_eq_false h]; exact br_f (h2 h)
theorem br_nd {p A B : Prop} [Decidable p] (h1 : ¬ p → A) (h2 : p → B) : Br (!decide p) A B := by
  by_cases h : p
  · rw [decide_eq_true h]; exact br_f (h2 h)
  · rw [decide_eq_false h]; exact br_t (h1 h)
theorem br_b {b : Bool} {A B : Prop} (h1 : b = true → A) (h2 : b = false → B) : Br b A B := by
  cases b with
  | true => exact br_t (h1 rfl)
  | false => exact br_f (h2 rfl)
theorem br_not {b : Bool} {A B : Prop} (h : Br b B A) : Br (!b) A B := by
  cases b with
  | true => exact h
  | false => exact h
/-! ### expressions -/
theorem st_var {i : Nat} (h : σ[i]? = some (some v)) (q : Q v H) : tVar i σ H Q := ⟨v, h, q⟩
theorem st_c (q : Q v H) : tC v σ H Q := q
theorem st_op {r : R2} (h : ta σ H fun x H1 => tb σ H1 fun y H2 => r x y H2 Q) : tOp r ta tb σ H Q := h
theorem st_opS {r : R2S} (h : ta σ H fun x H1 => tb σ H1 fun y H2 => r σ x y H2 Q) : tOpS r ta tb σ H Q := h
theorem st_un {r : V → Hp → VK → Prop} (h : ta σ H fun x H1 => r x H1 Q) : tUn r ta σ H Q := h
theorem st_unS {r : L2.St → V → Hp → VK → Prop} (h : ta σ H fun x H1 => r σ x H1 Q) : tUnS r ta σ H Q := h
theorem st_nil (h : QA [] H) : tNil σ H QA := h
theorem st_cons {tr : TA} (h : ta σ H fun x H1 => tr σ H1 fun xs H2 => QA (x :: xs) H2) : tCons ta tr σ H QA := h
theorem st_cb {r : List V → Hp → VK → Prop} (h : as σ H fun vs H1 => r vs H1 Q) : tCB r as σ H Q := h
theorem st_cbS {r : L2.St → List V → Hp → VK → Prop} (h : as σ H fun vs H1 => r σ vs H1 Q) : tCBS r as σ H Q := h
theorem st_fn {dvs : List V} (h : as σ H fun vs H1 => sp (vs ++ dvs) H1 Q (E σ)) : tCallSD sp dvs E as σ H Q := h
/-- a new tuple, a new list -/
def rTup (xs : List V) (H : Hp) (Q : VK) : Prop := xs.length ≤ sizeLine ∧ ∀ p, H p = none → Q (.ref p) (upd H p (.tup xs))
def rLst (xs : List V) (H : Hp) (Q : VK) : Prop := xs.length ≤ sizeLine ∧ ∀ p, H p = none → Q (.ref p) (upd H p (.lst xs))
theorem st_tup (h : as σ H fun xs H1 => rTup xs H1 Q) : tTup as σ H Q := h
theorem st_lst (h : as σ H fun xs H1 => rLst xs H1 Q) : tLst as σ H Q := h
theorem r_tup {xs : List V} (hz : xs.length ≤ 1000) (h : ∀ p H2, H p = none → Ext H H2 → H2 p = some (.tup xs) → Q (.ref p) H2) : rTup xs H Q := ⟨Nat.le_trans hz (by decide), fun p hp => h p _ hp (Ext.new hp) upd_same⟩
theorem r_lst {xs : List V} (hz : xs.length ≤ 1000) (h : ∀ p H2, H p = none → Ext H H2 → H2 p = some (.lst xs) → Q (.ref p) H2) : rLst xs H Q := ⟨Nat.le_trans hz (by decide), fun p hp => h p _ hp (Ext.new hp) upd_same⟩
/-- e.f -/
def rFld (K : PySem.W.Frag) (f : Str) (x : V) (H : Hp) (Q : VK) : Prop := ∃ a C dx fs v, x = .ref a ∧ H a = some (.ins C dx fs) ∧ Cls K C ∧ NoAttr K C f ∧ fs.lookup f = some v ∧ Q v H
theorem st_fld {f : Str} (h : ta σ H fun x H1 => rFld K f x H1 Q) : tFld K ta f σ H Q := h
theorem r_fld {f : Str} {a C dx : Addr} {fs : List (Str × V)} (h : H a = some (.ins C dx fs)) (c : Cls K C) (n : NoAttr K C f) (l : fs.lookup f = some v) (q : Q v H) : rFld K f (.ref a) H Q := ⟨a, C, dx, fs, v, rfl, h, c, n, l, q⟩
/-- e.f = v -/
def rPutF (K : PySem.W.Frag) (f : Str) (x y : V) (H : Hp) (k : Hp → Prop) : Prop := ∃ a C dx fs, x = .ref a ∧ H a = some (.ins C dx fs) ∧ Cls K C ∧ NoAttr K C f ∧ fs.length < 1000 ∧ k (upd H a (.ins C dx (putF f y fs)))
theorem run_fld {f : Str} (h : tb σ H fun y H1 => ta σ H1 fun x H2 => rPutF K f x y H2 (nx σ)) : Run (sFld K ta tb f) nx rt bk ct σ H := h
theorem r_putF {f : Str} {a C dx : Addr} {fs : List (Str × V)} {k : Hp → Prop} (h : H a = some (.ins C dx fs)) (c : Cls K C) (n : NoAttr K C f) (l : fs.length < 1000) (q : k (upd H a (.ins C dx (putF f y fs)))) : rPutF K f (.ref a) y H k := ⟨a, C, dx, fs, rfl, h, c, n, l, q⟩
/-- a test -/
def rTest (x : V) (H : Hp) (QB : Bool → Hp → Prop) : Prop := ∃ k, x = .bl k ∧ QB k H
theorem st_test (h : te σ H fun x H' => rTest x H' QB) : tTest te σ H QB := h
theorem r_test {k : Bool} (h : QB k H) : rTest (.bl k) H QB := ⟨k, rfl, h⟩
def rTru (K : PySem.W.Frag) (x : V) (H : Hp) (QB : Bool → Hp → Prop) : Prop := ∃ k, TruV K x H k ∧ QB k H
theorem st_tru (h : te σ H fun x H' => rTru K x H' QB) : (fun (σ : L2.St) H (Q : Bool → Hp → Prop) => te σ H fun x H' => ∃ k, TruV K x H' k ∧ Q k H') σ H QB := h
theorem r_truB {k : Bool} (h : QB k H) : rTru K (.bl k) H QB := ⟨k, rfl, h⟩
theorem st_not (h : tt σ H fun c H1 => QB (!c) H1) : tNot tt σ H QB := h
theorem st_and (h : tt σ H fun c H1 => Br c (tu σ H1 QB) (QB false H1)) : tAnd tt tu σ H QB := h
theorem st_or (h : tt σ H fun c H1 => Br c (QB true H1) (tu σ H1 QB)) : tOr tt tu σ H QB := h
def rAndV (tb : TE) (σ : L2.St) (x : V) (H : Hp) (Q : VK) : Prop := ∃ c, x = .bl c ∧ if c = true then tb σ H Q else Q (.bl false) H
def rOrV (tb : TE) (σ : L2.St) (x : V) (H : Hp) (Q : VK) : Prop := ∃ c, x = .bl c ∧ if c = true then Q (.bl true) H else tb σ H Q
theorem st_andV (h : ta σ H fun x H1 => rAndV tb σ x H1 Q) : tAndV ta tb σ H Q := h
theorem st_orV (h : ta σ H fun x H1 => rOrV tb σ x H1 Q) : tOrV ta tb σ H Q := h
theorem r_andV {c : Bool} (h : Br c (tb σ H Q) (Q (.bl false) H)) : rAndV tb σ (.bl c) H Q := ⟨c, rfl, h⟩
theorem r_orV {c : Bool} (h : Br c (Q (.bl true) H) (tb σ H Q)) : rOrV tb σ (.bl c) H Q := ⟨c, rfl, h⟩
def rNotV (x : V) (H : Hp) (Q : VK) : Prop := ∃ c, x = .bl c ∧ Q (.bl (!c)) H
theorem st_notV (h : ta σ H fun x H1 => rNotV x H1 Q) : tNotV ta σ H Q := h
theorem r_notV {c : Bool} (h : Q (.bl (!c)) H) : rNotV (.bl c) H Q := ⟨c, rfl, h⟩
theorem st_ifE (h : tt σ H fun c H1 => Br c (ta σ H1 Q) (tb σ H1 Q)) : tIf tt ta tb σ H Q := h
def rChain (r' : R2) (tc : TE) (σ : L2.St) (y z : V) (H : Hp) (Q : VK) : Prop := ∃ k, z = .bl k ∧ (if k = true then tc σ H fun w' H4 => r' y w' H4 Q else Q (.bl false) H)
theorem st_chain {r r' : R2} (h : ta σ H fun x H1 => tb σ H1 fun y H2 => r x y H2 fun z H3 => rChain r' tc σ y z H3 Q) : tChain r r' ta tb tc σ H Q := h
theorem r_chain {r' : R2} {k : Bool} (h : Br k (tc σ H fun w' H4 => r' y w' H4 Q) (Q (.bl false) H)) : rChain r' tc σ y (.bl k) H Q := ⟨k, rfl, h⟩
/-! ### the operators on values -/
variable {i j : Int}
theorem v_add (q : Q (.int (i + j)) H) : uAdd K (.int i) (.int j) H Q := .inl ⟨i, j, rfl, rfl, q⟩
theorem v_addS {i j : Str} (hz : i.length + j.length ≤ 1000000) (q : Q (.str (i ++ j)) H) : uAdd K (.str i) (.str j) H Q := .inr (.inl ⟨i, j, rfl, rfl, Nat.le_trans hz (by decide), q⟩)
theorem v_addL {a b : Addr} {xs ys : List V} (ha : H a = some (.lst xs)) (hb : H b = some (.lst ys)) (hz : xs.length + ys.length ≤ 1000000) (q : ∀ p H2, H p = none → Ext H H2 → H2 p = some (.lst (xs ++ ys)) → Q (.ref p) H2) : uAdd K (.ref a) (.ref b) H Q :=
  .inr (.inr (.inl ⟨a, b, xs, ys, rfl, rfl, ha, hb, Nat.le_trans hz (by decide), fun p hp => q p _ hp (Ext.new hp) upd_same⟩))
theorem v_sub (q : Q (.int (i - j)) H) : uSub (.int i) (.int j) H Q := ⟨i, j, rfl, rfl, q⟩
theorem v_mul (hc : CM i j) (q : Q (.int (i * j)) H) : uMul (.int i) (.int j) H Q := .inl ⟨i, j, rfl, rfl, hc, q⟩
theorem v_fdiv (hc : CD i j) (q : Q (.int (i.fdiv j)) H) : uFdiv (.int i) (.int j) H Q := ⟨i, j, rfl, rfl, hc, q⟩
theorem v_mod (hc : 0 < j) (q : Q (.int (i % j)) H) : uMod (.int i) (.int j) H Q := ⟨i, j, rfl, rfl, by omega, by show Q (.int (i.fmod j)) H; rw [Int.fmod_eq_emod_of_nonneg i (by omega)]; exact q⟩
theorem v_modN (hc : j ≠ 0) (q : Q (.int (i.fmod j)) H) : uMod (.int i) (.int j) H Q := ⟨i, j, rfl, rfl, hc, q⟩
theorem v_pow (hc : CPow i j) (q : Q (.int (i ^ j.toNat)) H) : uPow (.int i) (.int j) H Q := ⟨i, j, rfl, rfl, hc, q⟩
theorem v_lt (q : Q (.bl (decide (i < j))) H) : uLt (.int i) (.int j) H Q := ⟨i, j, rfl, rfl, q⟩
theorem v_le (q : Q (.bl (decide (i ≤ j))) H) : uLe (.int i) (.int j) H Q := ⟨i, j, rfl, rfl, q⟩
theorem v_gt (q : Q (.bl (decide (j < i))) H) : uGt (.int i) (.int j) H Q := ⟨i, j, rfl, rfl, q⟩
theorem v_ge (q : Q (.bl (decide (j ≤ i))) H) : uGe (.int i) (.int j) H Q := ⟨i, j, rfl, rfl, q⟩
theorem dec_congr {p q : Prop} [Decidable p] [Decidable q] (h : p ↔ q) : decide p = decide q := by
  by_cases c : p
  · rw [decide_eq_true c, decide_eq_true (h.mp c)]
  · rw [decide_eq_false c, decide_eq_false (fun z => c (h.mpr z))]
theorem v_eq (q : Q (.bl (decide (i = j))) H) : uEq K (.int i) (.int j) H Q := .inl ⟨rfl, by rw [dec_congr (q := i = j) ⟨fun h => V.int.inj h, fun h => by rw [h]⟩]; exact q⟩
theorem v_ne (q : Q (.bl (!decide (i = j))) H) : uNe K (.int i) (.int j) H Q := .inl ⟨rfl, by rw [dec_congr (q := i = j) ⟨fun h => V.int.inj h, fun h => by rw [h]⟩]; exact q⟩
theorem v_eqB {i j : Bool} (q : Q (.bl (decide (i = j))) H) : uEq K (.bl i) (.bl j) H Q := .inl ⟨rfl, by rw [dec_congr (q := i = j) ⟨fun h => V.bl.inj h, fun h => by rw [h]⟩]; exact q⟩
theorem v_neB {i j : Bool} (q : Q (.bl (!decide (i = j))) H) : uNe K (.bl i) (.bl j) H Q := .inl ⟨rfl, by rw [dec_congr (q := i = j) ⟨fun h => V.bl.inj h, fun h => by rw [h]⟩]; exact q⟩
theorem v_eqS {i j : Str} (q : Q (.bl (decide (i = j))) H) : uEq K (.str i) (.str j) H Q := .inl ⟨rfl, by rw [dec_congr (q := i = j) ⟨fun h => V.str.inj h, fun h => by rw [h]⟩]; exact q⟩
theorem v_neS {i j : Str} (q : Q (.bl (!decide (i = j))) H) : uNe K (.str i) (.str j) H Q := .inl ⟨rfl, by rw [dec_congr (q := i = j) ⟨fun h => V.str.inj h, fun h => by rw [h]⟩]; exact q⟩
/-- two tuples of two ints -/
theorem v_eqT2 {a b : Addr} {i j k l : Int} (ha : H a = some (.tup [.int i, .int j])) (hb : H b = some (.tup [.int k, .int l])) (q : Q (.bl (decide (i = k ∧ j = l))) H) : uEq K (.ref a) (.ref b) H Q := by
  refine .inr ⟨.tuple [.int i, .int j], .tuple [.int k, .int l], .tup (SqT.of ha) (.cons (.int _) (.cons (.int _) .nil)), .tup (SqT.of hb) (.cons (.int _) (.cons (.int _) .nil)), rfl, rfl, ?_⟩
  have e : PyData.eqv (.tuple [.int i, .int j]) (.tuple [.int k, .int l]) = decide (i = k ∧ j = l) := by
    rw [Bool.eq_iff_iff]
    simp [PyData.eqv, PyData.eqvAll]
  rw [e]
  exact q
theorem v_ixL {a : Addr} {xs : List V} {z : Int} (ha : H a = some (.lst xs)) (hz : 0 ≤ z) (h : xs[z.toNat]? = some v) (q : Q v H) : uIx K (.ref a) (.int z) H Q :=
  .inl ⟨a, xs, z, v, rfl, rfl, SqL.of ha, at_of (Int.toNat_of_nonneg hz).symm h, q⟩
theorem v_ixT {a : Addr} {xs : List V} {z : Int} (ha : H a = some (.tup xs)) (hz : 0 ≤ z) (h : xs[z.toNat]? = some v) (q : Q v H) : uIx K (.ref a) (.int z) H Q :=
  .inr (.inl ⟨a, xs, z, v, rfl, rfl, SqT.of ha, at_of (Int.toNat_of_nonneg hz).symm h, q⟩)
theorem v_neg (q : Q (.int (-i)) H) : (rU fun i => .int (-i)) (.int i) H Q := ⟨i, rfl, q⟩
theorem v_int (q : Q (.int i) H) : cInt [.int i] H Q := .inl ⟨i, rfl, q⟩
theorem v_intB {b : Bool} (q : Q (.int (if b then 1 else 0)) H) : cInt [.bl b] H Q := .inr ⟨b, rfl, q⟩
theorem v_boolB {b : Bool} (q : Q (.bl b) H) : cBool [.bl b] H Q := .inr ⟨b, rfl, q⟩
theorem v_lenL {a : Addr} {xs : List V} (ha : H a = some (.lst xs)) (q : Q (.int (xs.length : Int)) H) : cLen K [.ref a] H Q := ⟨.ref a, xs.length, rfl, .inl ⟨xs, SqL.of ha, rfl⟩, q⟩
theorem v_lenT {a : Addr} {xs : List V} (ha : H a = some (.tup xs)) (q : Q (.int (xs.length : Int)) H) : cLen K [.ref a] H Q := ⟨.ref a, xs.length, rfl, .inr ⟨xs, SqT.of ha, rfl⟩, q⟩
/-- xs[n] = v -/
theorem st_sub {T : TSet} {k : L2.St → Hp → Prop} (h : ta σ H fun o H1 => tb σ H1 fun i H2 => T o i v H2 fun H3 => k σ H3) : gSub ta tb T v σ H k := h
theorem v_set {a : Addr} {xs : List V} {z : Int} {k : Hp → Prop} (ha : H a = some (.lst xs)) (hz : 0 ≤ z) (h : z.toNat < xs.length) (q : ∀ H2, But a H H2 → H2 a = some (.lst (xs.set z.toNat v)) → k H2) : uSet (.ref a) (.int z) v H k :=
  ⟨a, xs, z, z.toNat, rfl, rfl, ha, by unfold ixN; rw [if_pos hz, if_pos (by omega)], q _ But.upd upd_same⟩
/-- methods of lists -/
theorem st_bm {T : String} {r : V → List V → Hp → VK → Prop} (h : ta σ H fun x H1 => tyV K T x H1 ∧ as σ H1 fun xs H2 => r x xs H2 Q) : tBM K T r ta as σ H Q := h
theorem st_bm0 {T : String} {r : V → List V → Hp → VK → Prop} (h : ta σ H fun x H1 => tyV K T x H1 ∧ r x [] H1 Q) : tBM0 K T r ta σ H Q := h
theorem ty_list {a : Addr} {xs : List V} (ha : H a = some (.lst xs)) : tyV K "list" (.ref a) H := .inl ⟨rfl, xs, SqL.of ha⟩
theorem v_append {a : Addr} {xs : List V} (ha : H a = some (.lst xs)) (hz : xs.length < 1000000) (q : ∀ H2, But a H H2 → H2 a = some (.lst (xs ++ [v])) → Q .non H2) : rAppend (.ref a) [v] H Q :=
  ⟨a, xs, v, rfl, rfl, ha, Nat.lt_of_lt_of_le hz (by decide), q _ But.upd upd_same⟩
theorem v_popAt {a : Addr} {xs : List V} {z : Int} (ha : H a = some (.lst xs)) (hz : 0 ≤ z) (hn : z < 1000000) (h : xs[z.toNat]? = some v) (q : ∀ H2, But a H H2 → H2 a = some (.lst (xs.eraseIdx z.toNat)) → Q v H2) : rPopAt (.ref a) [.int z] H Q :=
  ⟨a, xs, z, z.toNat, v, rfl, rfl, ha, by omega, by omega, by
    have w := (List.getElem?_eq_some_iff.mp h).1
    show (if (decide ((0 : Int) ≤ (if z < 0 then z + xs.length else z)) && decide ((if z < 0 then z + xs.length else z) < xs.length)) = true then some (if z < 0 then z + xs.length else z).toNat else none) = some z.toNat
    rw [if_neg (show ¬ z < 0 by omega), if_pos (by simp; omega)], h, q _ But.upd upd_same⟩
/-- what a change leaves -/
theorem chg {a : Addr} {o : HO} {k : Hp → Prop} (h : ∀ H2, But a H H2 → H2 a = some o → k H2) : k (upd H a o) := h _ But.upd upd_same
end
end GG

/-! GT: loops, comprehensions, makings, tries, isinstance: the readings step by step. -/
namespace GG
open PySem L2 PyProof.Rows

/-! ### more rules for any operands -/
def cMin2 : List V → Hp → VK → Prop := fun xs H Q => ∃ i j, xs = [.int i, .int j] ∧ Q (.int (if j < i then j else i)) H
def cMax2 : List V → Hp → VK → Prop := fun xs H Q => ∃ i j, xs = [.int i, .int j] ∧ Q (.int (if j > i then j else i)) H
def cAbs : List V → Hp → VK → Prop := fun xs H Q => ∃ i, xs = [.int i] ∧ Q (.int (if i < 0 then -i else i)) H
section
variable {X : Cx}
theorem c_min2 (hc : X.calm = true) : CallR X (.builtin "min") cMin2 := call_min2 hc
theorem c_max2 (hc : X.calm = true) : CallR X (.builtin "max") cMax2 := call_max2 hc
theorem c_min1 (K : PySem.W.Frag) (hc : X.calm = true) (hK : X.K = K := by rfl) : CallR X (.builtin "min") (rMin K) := by subst hK; exact cr_min hc
theorem c_max1 (K : PySem.W.Frag) (hc : X.calm = true) (hK : X.K = K := by rfl) : CallR X (.builtin "max") (rMax K) := by subst hK; exact cr_max hc
theorem c_abs : CallR X (.builtin "abs") cAbs := call_abs
end

theorem cd_small {i j : Int} (h0 : 0 < j) (h1 : j ≤ 1000000) : CD i j := ⟨by omega, Nat.lt_trans (PySem.Flt.log2_lt_of (k := 20) (by decide) (by omega)) (by decide)⟩
theorem kit_self {K : PySem.W.Frag} {C : Addr} : PySem.W.kitOne K (.ref C) (.ref C) = some true := by
  unfold PySem.W.kitOne
  rw [if_pos (beq_self_eq_true _)]
theorem not_first {K : PySem.W.Frag} {C : Addr} {t : Value} (h : PySem.W.subIn K t (.ref C) = some false) : PySem.W.notFirst K C t = true := by
  unfold PySem.W.notFirst
  rw [h]
  simp
theorem right_mk {K : PySem.W.Frag} {C : Addr} {T nm : String} {d r : Str} {fo ro rc : Option Value} (hd : PySem.dunder nm = d) (hr : dunderR nm = r) (r1 : PySem.W.findIn K (.type T) d = some fo) (r2 : PySem.W.findIn K (.type T) r = some ro) (r3 : PySem.W.findIn K (.ref C) r = some rc)
    (r3' : rc = none ∨ ∃ g : Addr, rc = some (.ref g)) (r4 : PySem.W.subIn K (.type T) (.ref C) = some false) : RightT K C T nm := by
  subst hd
  subst hr
  exact ⟨⟨_, r1⟩, ⟨_, r2⟩, ⟨_, r3, r3'⟩, r4⟩
/-- what the top has written of an own class x, at C -/
structure OwnC (K : PySem.W.Frag) (mg : Str → Option Value) (x : Str) (C : Addr) : Prop where
  g : mg x = some (.ref C)
  cl : Cls K C
  sf : PySem.W.selfFirst K C = true
  ha : PySem.W.findIn K (.ref C) "__class__" = some (some (.builtin "object.__class__"))
  hn : PySem.W.specialIn K (.builtin "object.__class__") "__get__" = some (some (.builtin "getset_descriptor.__get__"))
  ht : PySem.W.takesIn K (.builtin "object.__class__") = some true
  hm : PySem.W.mroIn K C (.type "object") = some true
  ki : PySem.W.kitOne K (.ref C) (.ref C) = some true
theorem OwnC.ty {K : PySem.W.Frag} {mg : Str → Option Value} {x : Str} {C a dx : Addr} {H : Hp} {fs : List (Str × V)} (O : OwnC K mg x C) (e : H a = some (.ins C dx fs)) : TyX K H (.ref a) (.ref C) := .base (.ins e O.cl O.ha O.hn O.ht O.hm)

/-- a continuation at slots with one set -/
def Kont (nx : L2.St → Hp → Prop) (σ : L2.St) (n : Nat) (v : Option V) (H : Hp) : Prop := nx (σ.set n v) H
/-- a value's truth, as a test -/
def tTru (K : PySem.W.Frag) (te : TE) : TT := fun σ H Q => te σ H fun x H' => rTru K x H' Q
theorem pt_tru (K : PySem.W.Frag) {X : Cx} {a : Expr} {ta : TE} (ha : PE X a ta) (he : ∀ whole, isTrue a X.env whole = (do let v ← whole; standAt a.pos; holding [v] (truthy v))) (hK : X.K = K := by rfl) : PT X a (tTru K ta) := by subst hK; exact pt_truth ha he
section
variable {K : PySem.W.Frag} {mg : Str → Option Value} {nx bk ct : L2.St → Hp → Prop} {rt : VK} {σ : L2.St} {H : Hp} {t u : TS} {te ta tb tc : TE} {tt tu : TT} {as : TA} {Q : VK} {QB : Bool → Hp → Prop} {QA : List V → Hp → Prop} {v x y : V} {E : L2.St → XK} {sp : Sp} {i j : Int}
theorem v_min2 (q : Q (.int (min i j)) H) : cMin2 [.int i, .int j] H Q := ⟨i, j, rfl, by rw [show (if j < i then j else i) = min i j by split <;> omega]; exact q⟩
theorem v_max2 (q : Q (.int (max i j)) H) : cMax2 [.int i, .int j] H Q := ⟨i, j, rfl, by rw [show (if j > i then j else i) = max i j by split <;> omega]; exact q⟩
theorem v_abs (q : Q (.int (if i < 0 then -i else i)) H) : cAbs [.int i] H Q := ⟨i, rfl, q⟩
theorem v_min1 {a : Addr} {ns : List Int} (ha : H a = some (.lst (ns.map V.int))) (h : 0 < ns.length) (q : ∀ m, m ∈ ns → (∀ y, y ∈ ns → m ≤ y) → Q (.int m) H) : rMin K [.ref a] H Q := ⟨a, ns, rfl, SqL.of ha, h, q⟩
theorem v_max1 {a : Addr} {ns : List Int} (ha : H a = some (.lst (ns.map V.int))) (h : 0 < ns.length) (q : ∀ m, m ∈ ns → (∀ y, y ∈ ns → y ≤ m) → Q (.int m) H) : rMax K [.ref a] H Q := ⟨a, ns, rfl, SqL.of ha, h, q⟩
/-! ### isinstance -/
theorem v_isII (q : Q (.bl true) H) : rIsi K [.int i, .ty "int"] H Q := ⟨.int i, .ty "int", .type "int", .type "int", true, rfl, .ty _, .base (.int i), kit_ty (by decide +kernel), q⟩
theorem v_isIB (q : Q (.bl false) H) : rIsi K [.int i, .ty "bool"] H Q := ⟨.int i, .ty "bool", .type "int", .type "bool", false, rfl, .ty _, .base (.int i), kit_ty (by decide +kernel), q⟩
theorem v_isBB {b : Bool} (q : Q (.bl true) H) : rIsi K [.bl b, .ty "bool"] H Q := ⟨.bl b, .ty "bool", .type "bool", .type "bool", true, rfl, .ty _, .base (.bl b), kit_ty (by decide +kernel), q⟩
theorem v_isO {n : Str} {C a dx : Addr} {fs : List (Str × V)} (e : H a = some (.ins C dx fs)) (O : OwnC K mg n C) (q : Q (.bl true) H) : rIsi K [.ref a, .ref C] H Q := ⟨.ref a, .ref C, .ref C, .ref C, true, rfl, .own C, O.ty e, O.ki, q⟩
theorem v_isX {n : Str} {a C fI dd : Addr} {v c : V} {cv : Value} {b : Bool} (T : PySem.GErr.ErrTxt K mg n C fI) (hd : H dd = some (.xd (subj v))) (k : PySem.W.kitOne K (.ref C) cv = some b) (hc : ClsV c cv) (q : Q (.bl b) H) : rIsX K mg a (.ref C) (some dd) [.ref a, c] H Q :=
  ⟨n, C, fI, dd, v, c, cv, b, rfl, rfl, T, rfl, hd, hc, k, q⟩
/-! ### e.subject -/
def rSubj (K : PySem.W.Frag) (mg : Str → Option Value) (a : Addr) (cls : Value) (d : Option Addr) (x : V) (H : Hp) (Q : VK) : Prop := x = .ref a ∧ ∃ (n : Str) (C fI dd : Addr) (v : V), cls = .ref C ∧ PySem.GErr.ErrTxt K mg n C fI ∧ d = some dd ∧ H dd = some (.xd (subj v)) ∧ Q v H
theorem st_subj {a : Addr} {cls : Value} {d : Option Addr} (h : te σ H fun x H1 => rSubj K mg a cls d x H1 Q) : tSubj K mg a cls d te σ H Q := h
theorem v_subj {n : Str} {a C fI dd : Addr} (T : PySem.GErr.ErrTxt K mg n C fI) (hd : H dd = some (.xd (subj v))) (q : Q v H) : rSubj K mg a (.ref C) (some dd) (.ref a) H Q := ⟨rfl, n, C, fI, dd, v, rfl, T, rfl, hd, q⟩
/-! ### raise -/
def rRaise (C : Addr) (W : WX) (σ : L2.St) (vs : List V) (H : Hp) : Prop := ∃ v, vs = [v] ∧ ∀ d, H d = none → W (.ref C) (some d) σ (upd H d (.xd (subj v)))
theorem run_raise {C : Addr} {W : WX} (h : as σ H fun vs H1 => rRaise C W σ vs H1) : Run (tRaiseErr C W as) nx rt bk ct σ H := h
theorem v_raise {C : Addr} {W : WX} (h : ∀ d H2, H d = none → Ext H H2 → H2 d = some (.xd (subj v)) → W (.ref C) (some d) σ H2) : rRaise C W σ [v] H := ⟨v, rfl, fun d hd => h d _ hd (Ext.new hd) upd_same⟩
/-! ### try .. except C as n -/
theorem run_tryAs {K : PySem.W.Frag} {c : Value} {i : Nat} {ts : Addr → Obj → Value → Option Addr → List (Addr × Obj) → TS} {Wout : WX} {tb : WX → List (Addr × Obj) → (Value → Shared → Prop) → TS} (h : ∀ pn xe, Run (tb (wAs K c i (tAll ts) Wout ⟨nx, rt, bk, ct⟩) pn xe) nx rt bk ct σ H) :
    Run (tTryAs K c i ts Wout tb) nx rt bk ct σ H := h
theorem run_tryOnly {K : PySem.W.Frag} {c : Value} {ts : Addr → Obj → Value → Option Addr → List (Addr × Obj) → TS} {Wout : WX} {tb : WX → List (Addr × Obj) → (Value → Shared → Prop) → TS} (h : ∀ pn xe, Run (tb (wOnly K c (tAll ts) Wout ⟨nx, rt, bk, ct⟩) pn xe) nx rt bk ct σ H) :
    Run (tTryOnly K c ts Wout tb) nx rt bk ct σ H := h
theorem w_only {K : PySem.W.Frag} {c cls : Value} {d : Option Addr} {ts : Addr → Obj → Value → Option Addr → List (Addr × Obj) → TS} {Wout : WX} (hm : PySem.W.exmOne K cls c = some true)
    (q : ∀ a oe pn, H a = none → Run (ts a oe cls d pn) nx rt bk ct σ H) : wOnly K c (tAll ts) Wout ⟨nx, rt, bk, ct⟩ cls d σ H :=
  ⟨true, hm, fun _ a ha oe pn => q a oe pn ha, fun z => nomatch z⟩
theorem w_as {K : PySem.W.Frag} {c cls : Value} {i : Nat} {d : Option Addr} {ts : Addr → Obj → Value → Option Addr → List (Addr × Obj) → TS} {Wout : WX} (hm : PySem.W.exmOne K cls c = some true)
    (q : ∀ a oe pn, H a = none → Kont (fun σ1 H1 => Run (ts a oe cls d pn) (fun σ' H' => Kont nx σ' i none H') rt (fun σ' H' => Kont bk σ' i none H') (fun σ' H' => Kont ct σ' i none H') σ1 H1) σ i (some (.ref a)) H) : wAs K c i (tAll ts) Wout ⟨nx, rt, bk, ct⟩ cls d σ H :=
  ⟨true, hm, fun _ a ha oe pn => q a oe pn ha, fun z => nomatch z⟩
/-! ### C(..) -/
def rMk (C : Addr) (sp : Sp) (E : XK) (vs : List V) (H : Hp) (Q : VK) : Prop := ∀ x dx, H x = none → H dx = none → dx ≠ x → sp (.ref x :: vs) (upd (upd H dx (.own x)) x (.ins C dx [])) (fun v H2 => v = .non ∧ Q (.ref x) H2) E
theorem st_mk {C : Addr} {dvs : List V} (h : as σ H fun vs H1 => rMk C sp (E σ) (vs ++ dvs) H1 Q) : tMkS C sp dvs E as σ H Q := h
/-- the new instance: what was stays, the instance is x -/
theorem v_mk {C : Addr} {vs : List V} {E : XK} (h : ∀ x dx H1, H x = none → Ext H H1 → H1 x = some (.ins C dx []) → sp (.ref x :: vs) H1 (fun v H2 => v = .non ∧ Q (.ref x) H2) E) : rMk C sp E vs H Q := fun x dx hx hd hn =>
  h x dx _ hx (fun a o e => by rw [upd_ne (ne_of_none e hx), upd_ne (ne_of_none e hd)]; exact e) upd_same
/-! ### list(range(..)) -/
def rLstRg (a b : Int) (H : Hp) (Q : VK) : Prop := RgOk a b ∧ ∀ q, H q = none → Q (.ref q) (upd H q (.lst (rgV a b)))
def rRg2 (x y : V) (H : Hp) (Q : Int → Int → Hp → Prop) : Prop := ∃ i j, x = .int i ∧ y = .int j ∧ Q i j H
theorem st_lstRg2 (h : ta σ H fun x H1 => tb σ H1 fun y H2 => rRg2 x y H2 fun a b H3 => rLstRg a b H3 Q) : tLstRg (tRg2 ta tb) σ H Q := h
theorem v_rg2 {Q : Int → Int → Hp → Prop} (q : Q i j H) : rRg2 (.int i) (.int j) H Q := ⟨i, j, rfl, rfl, q⟩
theorem v_lstRg (hr : RgOk i j) (h : ∀ p H2, H p = none → Ext H H2 → H2 p = some (.lst (rgV i j)) → Q (.ref p) H2) : rLstRg i j H Q := ⟨hr, fun p hp => h p _ hp (Ext.new hp) upd_same⟩
/-! ### own operators -/
theorem v_own {C a b dx dy : Addr} {fs gs : List (Str × V)} (ha : H a = some (.ins C dx fs)) (hb : H b = some (.ins C dy gs)) (q : sp [.ref a, .ref b] H Q (E σ)) : rOwn C sp E σ (.ref a) (.ref b) H Q := ⟨a, dx, fs, b, dy, gs, rfl, ha, rfl, hb, q⟩
theorem v_ownI {C a dx : Addr} {fs : List (Str × V)} (ha : H a = some (.ins C dx fs)) (q : sp [.ref a, .int i] H Q (E σ)) : rOwnI C sp E σ (.ref a) (.int i) H Q := ⟨a, dx, fs, i, rfl, ha, rfl, q⟩
theorem v_ownIn {C a dx : Addr} {fs : List (Str × V)} (ha : H a = some (.ins C dx fs)) (q : sp [.ref a, y] H (fun v H' => rTest v H' fun c H' => Q (.bl c) H') (E σ)) : rOwnIn C sp E σ y (.ref a) H Q := ⟨a, dx, fs, rfl, ha, q⟩
theorem v_own1 {C a dx : Addr} {fs : List (Str × V)} (ha : H a = some (.ins C dx fs)) (q : sp [.ref a] H Q (E σ)) : rOwn1 C sp E σ (.ref a) H Q := ⟨a, dx, fs, rfl, ha, q⟩
theorem v_ownC {C a dx : Addr} {fs : List (Str × V)} (ha : H a = some (.ins C dx fs)) (q : sp [.ref a] H Q (E σ)) : rOwnC C sp E σ [.ref a] H Q := ⟨a, dx, fs, rfl, ha, q⟩
theorem v_ownB {C a dx : Addr} {fs : List (Str × V)} (ha : H a = some (.ins C dx fs)) (q : sp [.ref a] H (fun v H' => rTest v H' fun c H' => Q (.bl c) H') (E σ)) : rOwnB C sp E σ [.ref a] H Q := ⟨a, dx, fs, rfl, ha, q⟩
theorem v_ownLen {C a dx : Addr} {fs : List (Str × V)} (ha : H a = some (.ins C dx fs)) (q : sp [.ref a] H (fun v H' => ∃ n : Int, v = .int n ∧ 0 ≤ n ∧ n < 2 ^ 63 ∧ Q (.int n) H') (E σ)) : rOwnLen C sp E σ [.ref a] H Q := ⟨a, dx, fs, rfl, ha, q⟩
/-! ### targets -/
theorem g_name {n : Nat} {k : L2.St → Hp → Prop} (h : k (σ.set n (some v)) H) : gName n v σ H k := h
theorem g_tup {a : Addr} {xs : List V} {n : Nat} {tg : TGs} {k : L2.St → Hp → Prop} (ha : H a = some (.tup xs)) (hl : xs.length = n) (h : tg xs σ H k) : gTup K n tg (.ref a) σ H k := ⟨a, xs, rfl, SqT.of ha, hl, h⟩
theorem g_cons {xs : List V} {g : TG} {tg : TGs} {k : L2.St → Hp → Prop} (h : g v σ H fun σ' H' => tg xs σ' H' k) : gCons g tg (v :: xs) σ H k := ⟨v, xs, rfl, h⟩
theorem g_nil {k : L2.St → Hp → Prop} (h : k σ H) : gNil [] σ H k := ⟨rfl, h⟩
/-! ### for -/
def rFor (J : It) (g : TG) (t : TS) (nx : L2.St → Hp → Prop) (rt : VK) (bk ct : L2.St → Hp → Prop) (σ : L2.St) (H : Hp) : Prop := ∃ W : Nat → Nat → L2.St → Hp → Prop, (∃ m, W 0 m σ H) ∧ ∀ i m σ H, W i m σ H →
  (J.stop i H ∧ nx σ H) ∨ (J.go i H ∧ ∃ N : L2.St → Hp → Prop, (∀ σ' H', N σ' H' → ∃ m', m' < m ∧ W (i + 1) m' σ' H') ∧ ∀ x H', J.yld i H x H' → g x σ H' fun σ2 H2 => t ⟨N, rt, nx, N⟩ σ2 H2)
theorem run_for {wi : TI} {g : TG} (h : wi σ H fun J H1 => rFor J g t nx rt bk ct σ H1) : Run (tFor wi g t) nx rt bk ct σ H := h
def rRng1 (vs : List V) (H : Hp) (R : It → Hp → Prop) : Prop := ∃ j : Int, vs = [.int j] ∧ -(2 ^ 62) ≤ j ∧ j < 2 ^ 62 ∧ R (Itr 0 j.toNat) H
def rRng2 (vs : List V) (H : Hp) (R : It → Hp → Prop) : Prop := ∃ i j : Int, vs = [.int i, .int j] ∧ (-(2 ^ 62) ≤ i ∧ i < 2 ^ 62 ∧ -(2 ^ 62) ≤ j ∧ j < 2 ^ 62) ∧ R (Itr i (j - i).toNat) H
def rSeqL (K : PySem.W.Frag) (x : V) (H : Hp) (R : It → Hp → Prop) : Prop := ∃ a, x = .ref a ∧ (∃ xs, SqL K H a xs) ∧ R (Itl K a) H
def rSeqT (K : PySem.W.Frag) (x : V) (H : Hp) (R : It → Hp → Prop) : Prop := ∃ a, x = .ref a ∧ (∃ xs, SqT K H a xs) ∧ R (Itt K a) H
theorem i_rng1 {R : It → Hp → Prop} (h : as σ H fun vs H1 => rRng1 vs H1 R) : iRng1 as σ H R := h
theorem i_rng2 {R : It → Hp → Prop} (h : as σ H fun vs H1 => rRng2 vs H1 R) : iRng2 as σ H R := h
theorem i_list {R : It → Hp → Prop} (h : te σ H fun x H1 => rSeqL K x H1 R) : iList K te σ H R := h
theorem i_tup {R : It → Hp → Prop} (h : te σ H fun x H1 => rSeqT K x H1 R) : iTup K te σ H R := h
theorem r_rng1 {R : It → Hp → Prop} (h0 : -1000000 ≤ j) (h1 : j ≤ 1000000) (q : R (Itr 0 j.toNat) H) : rRng1 [.int j] H R := ⟨j, rfl, by omega, by omega, q⟩
theorem r_rng2 {R : It → Hp → Prop} (h0 : -1000000 ≤ i) (h1 : i ≤ 1000000) (h2 : -1000000 ≤ j) (h3 : j ≤ 1000000) (q : R (Itr i (j - i).toNat) H) : rRng2 [.int i, .int j] H R := ⟨i, j, rfl, ⟨by omega, by omega, by omega, by omega⟩, q⟩
theorem r_seqL {R : It → Hp → Prop} {a : Addr} {xs : List V} (ha : H a = some (.lst xs)) (q : R (Itl K a) H) : rSeqL K (.ref a) H R := ⟨a, rfl, ⟨xs, SqL.of ha⟩, q⟩
theorem r_seqLK {R : It → Hp → Prop} {a : Addr} {xs : List V} (ha : SqL K H a xs) (q : R (Itl K a) H) : rSeqL K (.ref a) H R := ⟨a, rfl, ⟨xs, ha⟩, q⟩
theorem r_seqT {R : It → Hp → Prop} {a : Addr} {xs : List V} (ha : H a = some (.tup xs)) (q : R (Itt K a) H) : rSeqT K (.ref a) H R := ⟨a, rfl, ⟨xs, SqT.of ha⟩, q⟩
/-- a range, by a word of the turn -/
theorem f_range {lo : Int} {n : Nat} {g : TG} (Pv : Nat → L2.St → Hp → Prop) (h0 : Pv 0 σ H) (hs : ∀ i σ H, i < n → Pv i σ H → g (.int (lo + i)) σ H fun σ2 H2 => Run t (Pv (i + 1)) rt nx (Pv (i + 1)) σ2 H2) (hd : ∀ σ H, Pv n σ H → nx σ H) :
    rFor (Itr lo n) g t nx rt bk ct σ H := for_range (D := ⟨nx, rt, bk, ct⟩) Pv h0 hs hd
/-- range(n) from 0 -/
theorem f_range0 {n : Nat} {g : TG} (Pv : Nat → L2.St → Hp → Prop) (h0 : Pv 0 σ H) (hs : ∀ (i : Nat) σ H, i < n → Pv i σ H → g (.int (i : Int)) σ H fun σ2 H2 => Run t (Pv (i + 1)) rt nx (Pv (i + 1)) σ2 H2) (hd : ∀ σ H, Pv n σ H → nx σ H) :
    rFor (Itr 0 n) g t nx rt bk ct σ H := f_range Pv h0 (fun i σ H hi p => by rw [show (0 : Int) + (i : Int) = (i : Int) by omega]; exact hs i σ H hi p) hd
theorem v_ixLn {a : Addr} {xs : List V} {n : Nat} (ha : H a = some (.lst xs)) (h : xs[n]? = some v) (q : Q v H) : uIx K (.ref a) (.int (n : Int)) H Q := v_ixL ha (by omega) h q
theorem v_setN {a : Addr} {xs : List V} {n : Nat} {k : Hp → Prop} (ha : H a = some (.lst xs)) (h : n < xs.length) (q : ∀ H2, But a H H2 → H2 a = some (.lst (xs.set n v)) → k H2) : uSet (.ref a) (.int (n : Int)) v H k := v_set ha (by omega) h q
theorem f_list {a : Addr} {xs : List V} {g : TG} (Pv : Nat → L2.St → Hp → Prop) (h0 : Pv 0 σ H) (hl : ∀ i σ H, i ≤ xs.length → Pv i σ H → SqL K H a xs) (hs : ∀ i x σ H, xs[i]? = some x → Pv i σ H → g x σ H fun σ2 H2 => Run t (Pv (i + 1)) rt nx (Pv (i + 1)) σ2 H2)
    (hd : ∀ σ H, Pv xs.length σ H → nx σ H) : rFor (Itl K a) g t nx rt bk ct σ H := for_list (D := ⟨nx, rt, bk, ct⟩) Pv h0 hl hs hd
theorem f_tup {a : Addr} {xs : List V} {g : TG} (Pv : Nat → L2.St → Hp → Prop) (h0 : Pv 0 σ H) (hl : ∀ i σ H, i ≤ xs.length → Pv i σ H → SqT K H a xs) (hs : ∀ i x σ H, xs[i]? = some x → Pv i σ H → g x σ H fun σ2 H2 => Run t (Pv (i + 1)) rt nx (Pv (i + 1)) σ2 H2)
    (hd : ∀ σ H, Pv xs.length σ H → nx σ H) : rFor (Itt K a) g t nx rt bk ct σ H := for_tup (D := ⟨nx, rt, bk, ct⟩) Pv h0 hl hs hd
/-! ### [e for x in ..], without an if -/
def rLc (J : It) (g : TG) (tt : TT) (te : TE) (vs : List Nat) (σ : L2.St) (H1 : Hp) (Q : VK) : Prop := ∀ D, H1 D = none → ∃ W : Nat → Nat → Hp → Prop, (∃ m, W 0 m (upd H1 D (.lst []))) ∧ ∀ i m H, W i m H →
  (J.stop i H ∧ Q (.ref D) H) ∨ (J.go i H ∧ ∃ Nx : Hp → Prop, (∀ H', Nx H' → ∃ m', m' < m ∧ W (i + 1) m' H') ∧ ∀ x H', J.yld i H x H' → g x (wipe σ vs) H' fun σ2 H2 => wipe σ2 vs = wipe σ vs ∧ tt σ2 H2 fun b H3 =>
    if b = true then te σ2 H3 fun y H4 => ∃ acc, H4 D = some (.lst acc) ∧ acc.length < sizeLine ∧ Nx (upd H4 D (.lst (acc ++ [y]))) else Nx H3)
theorem st_lc {wi : TI} {g : TG} {vs : List Nat} (h : wi σ H fun J H1 => rLc J g tt te vs σ H1 Q) : tLc wi g tt te vs σ H Q := h
/-- one item more at D -/
def rAcc (D : Addr) (k : Hp → Prop) (y : V) (H : Hp) : Prop := ∃ acc, H D = some (.lst acc) ∧ acc.length < sizeLine ∧ k (upd H D (.lst (acc ++ [y])))
/-- D holds acc, n items, of which Pv -/
def LcAt (D : Addr) (n : Nat) (Pv : List V → Hp → Prop) (H : Hp) : Prop := ∃ acc, H D = some (.lst acc) ∧ acc.length = n ∧ Pv acc H
theorem v_acc {D : Addr} {n : Nat} {acc : List V} {Pv : List V → Hp → Prop} (ha : H D = some (.lst acc)) (hl : acc.length = n) (hz : n < 1000000) (q : ∀ H2, But D H H2 → H2 D = some (.lst (acc ++ [y])) → Pv (acc ++ [y]) H2) : rAcc D (LcAt D (n + 1) Pv) y H :=
  ⟨acc, ha, by rw [hl]; exact Nat.lt_of_lt_of_le hz (by decide), acc ++ [y], upd_same, by rw [List.length_append, hl]; rfl, q _ But.upd upd_same⟩
theorem lc_rng {lo : Int} {n : Nat} {g : TG} {vs : List Nat} (Pv : Nat → Addr → List V → Hp → Prop) (h0 : ∀ D H1, H D = none → Ext H H1 → H1 D = some (.lst []) → Pv 0 D [] H1)
    (hs : ∀ i D acc H1, H D = none → i < n → H1 D = some (.lst acc) → acc.length = i → Pv i D acc H1 → g (.int (lo + i)) (wipe σ vs) H1 fun σ2 H2 => wipe σ2 vs = wipe σ vs ∧ te σ2 H2 fun y H4 => rAcc D (LcAt D (i + 1) (Pv (i + 1) D)) y H4)
    (hd : ∀ D acc H1, H D = none → H1 D = some (.lst acc) → acc.length = n → Pv n D acc H1 → Q (.ref D) H1) : rLc (Itr lo n) g tYes te vs σ H Q := by
  intro D hD
  refine lc_range (Pv := fun i H1 => LcAt D i (Pv i D) H1) ⟨[], upd_same, rfl, h0 D _ hD (Ext.new hD) upd_same⟩ ?_ ?_
  · rintro i H1 hi ⟨acc, ha, hl, hp⟩
    exact hs i D acc H1 hD hi ha hl hp
  · rintro H1 ⟨acc, ha, hl, hp⟩
    exact hd D acc H1 hD ha hl hp
theorem lc_lst {a : Addr} {xs : List V} {g : TG} {vs : List Nat} (Pv : Nat → Addr → List V → Hp → Prop) (h0 : ∀ D H1, H D = none → Ext H H1 → H1 D = some (.lst []) → Pv 0 D [] H1)
    (hl : ∀ i D acc H1, H D = none → i ≤ xs.length → Pv i D acc H1 → SqL K H1 a xs)
    (hs : ∀ i x D acc H1, H D = none → xs[i]? = some x → H1 D = some (.lst acc) → acc.length = i → Pv i D acc H1 → g x (wipe σ vs) H1 fun σ2 H2 => wipe σ2 vs = wipe σ vs ∧ te σ2 H2 fun y H4 => rAcc D (LcAt D (i + 1) (Pv (i + 1) D)) y H4)
    (hd : ∀ D acc H1, H D = none → H1 D = some (.lst acc) → acc.length = xs.length → Pv xs.length D acc H1 → Q (.ref D) H1) : rLc (Itl K a) g tYes te vs σ H Q := by
  intro D hD
  refine lc_list (xs := xs) (Pv := fun i H1 => LcAt D i (Pv i D) H1) ⟨[], upd_same, rfl, h0 D _ hD (Ext.new hD) upd_same⟩ ?_ ?_ ?_
  · rintro i H1 hi ⟨acc, ha, hl', hp⟩
    exact hl i D acc H1 hD hi hp
  · rintro i x H1 hi ⟨acc, ha, hl', hp⟩
    exact hs i x D acc H1 hD hi ha hl' hp
  · rintro H1 ⟨acc, ha, hl', hp⟩
    exact hd D acc H1 hD ha hl' hp
end
end GG

/-! GU: the steps that ask nothing, found by instances. -/
namespace GG
open PySem L2 PyProof.Rows
class St1 (P : Prop) (P' : outParam Prop) : Prop where
  h : P' → P
class StN (P : Prop) (P' : outParam Prop) : Prop where
  h : P' → P
class StP (P : Prop) (P' : outParam Prop) : Prop where
  h : P' → P
instance (priority := low) stn_rfl {P : Prop} : StN P P := ⟨id⟩
instance stn_step {P P1 P' : Prop} [a : St1 P P1] [b : StN P1 P'] : StN P P' := ⟨fun h => a.h (b.h h)⟩
instance stp_step {P P1 P' : Prop} [a : St1 P P1] [b : StN P1 P'] : StP P P' := ⟨fun h => a.h (b.h h)⟩
/-- the value in a slot -/
class Slot1 (σ : L2.St) (i : Nat) (v : outParam V) : Prop where
  h : σ[i]? = some (some v)
instance slot_here {v : V} {σ : L2.St} : Slot1 (some v :: σ) 0 v := ⟨rfl⟩
instance slot_next {x : Option V} {σ : L2.St} {i : Nat} {v : V} [a : Slot1 σ i v] : Slot1 (x :: σ) (i + 1) v := ⟨a.h⟩
/-- a slot set -/
class SetS (σ : L2.St) (i : Nat) (v : Option V) (σ' : outParam L2.St) : Prop where
  h : σ.set i v = σ'
instance set_here {x v : Option V} {σ : L2.St} : SetS (x :: σ) 0 v (v :: σ) := ⟨rfl⟩
instance set_next {x v : Option V} {σ σ' : L2.St} {i : Nat} [a : SetS σ i v σ'] : SetS (x :: σ) (i + 1) v (x :: σ') := ⟨by rw [List.set_cons_succ, a.h]⟩
section
variable {K : PySem.W.Frag} {mg : Str → Option Value} {nx bk ct : L2.St → Hp → Prop} {rt : VK} {σ σ' : L2.St} {H : Hp} {t u : TS} {te ta tb tc : TE} {tt tu : TT} {as tr : TA} {Q : VK} {QB : Bool → Hp → Prop} {QA : List V → Hp → Prop} {v x y : V} {E : L2.St → XK} {sp : Sp} {i j : Int} {n : Nat} {b : Bool} {A B : Prop}
/-- the statements behind, by a name -/
theorem run_seqG (h : ∀ r, r = u → Run t (fun σ' H' => Run r nx rt bk ct σ' H') rt bk ct σ H) : Run (tSeq t u) nx rt bk ct σ H := h u rfl
theorem run_rest (r : TS) (h : Run r nx rt bk ct σ H) : Run r nx rt bk ct σ H := h
instance i_next : St1 (Run tNext nx rt bk ct σ H) (nx σ H) := ⟨run_next⟩
instance i_asg : St1 (Run (tAsg te (gName n)) nx rt bk ct σ H) (te σ H fun x H1 => Kont nx σ n (some x) H1) := ⟨fun h => h⟩
instance i_kont {v : Option V} [a : SetS σ n v σ'] : St1 (Kont nx σ n v H) (nx σ' H) := ⟨fun h => by unfold Kont; rw [a.h]; exact h⟩
instance i_asgS {T : TSet} : St1 (Run (tAsg te (gSub ta tb T)) nx rt bk ct σ H) (te σ H fun x H1 => ta σ H1 fun o H2 => tb σ H2 fun i H3 => T o i x H3 fun H4 => nx σ H4) := ⟨fun h => h⟩
instance i_asgT {n : Nat} {tg : TGs} : St1 (Run (tAsg te (gTup K n tg)) nx rt bk ct σ H) (te σ H fun x H1 => gTup K n tg x σ H1 nx) := ⟨fun h => h⟩
instance i_drop : St1 (Run (tDrop te) nx rt bk ct σ H) (te σ H fun _ H1 => nx σ H1) := ⟨fun h => h⟩
instance i_ret : St1 (Run (tRet te) nx rt bk ct σ H) (te σ H rt) := ⟨fun h => h⟩
instance i_retN : St1 (Run tRetN nx rt bk ct σ H) (rt .non H) := ⟨fun h => h⟩
instance i_break : St1 (Run tBreak nx rt bk ct σ H) (bk σ H) := ⟨fun h => h⟩
instance i_cont : St1 (Run tCont nx rt bk ct σ H) (ct σ H) := ⟨fun h => h⟩
instance i_ifS : St1 (Run (tIfS tt t u) nx rt bk ct σ H) (tt σ H fun b H1 => Br b (Run t nx rt bk ct σ H1) (Run u nx rt bk ct σ H1)) := ⟨fun h => h⟩
instance i_par {n m : Nat} : St1 (Run (tPar n m as) nx rt bk ct σ H) (as σ H fun vs H1 => ∃ v w, vs = [v, w] ∧ nx ((σ.set n (some v)).set m (some w)) H1) := ⟨fun h => h⟩
instance i_fldS {f : Str} : St1 (Run (sFld K ta tb f) nx rt bk ct σ H) (tb σ H fun y H1 => ta σ H1 fun x H2 => rPutF K f x y H2 (nx σ)) := ⟨fun h => h⟩
instance i_raise {C : Addr} {W : WX} : St1 (Run (tRaiseErr C W as) nx rt bk ct σ H) (as σ H fun vs H1 => rRaise C W σ vs H1) := ⟨fun h => h⟩
instance i_for {wi : TI} {g : TG} : St1 (Run (tFor wi g t) nx rt bk ct σ H) (wi σ H fun J H1 => rFor J g t nx rt bk ct σ H1) := ⟨fun h => h⟩
instance i_brT : St1 (Br true A B) A := ⟨br_t⟩
instance i_brF : St1 (Br false A B) B := ⟨br_f⟩
instance i_brN : St1 (Br (!b) A B) (Br b B A) := ⟨br_not⟩
instance i_brE {α : Type} {a : α} {d : Decidable (a = a)} : St1 (Br (@decide (a = a) d) A B) A := ⟨fun h => by rw [decide_eq_true rfl]; exact br_t h⟩
instance i_brE2 {α β : Type} {a : α} {b : β} {d : Decidable (a = a ∧ b = b)} : St1 (Br (@decide (a = a ∧ b = b) d) A B) A := ⟨fun h => by rw [decide_eq_true ⟨rfl, rfl⟩]; exact br_t h⟩
theorem br_andJ {A B : Prop} [Decidable A] [Decidable B] (h2 : ∀ Q' : VK, Q' (.bl (decide B)) H → tb σ H Q') (q : Q (.bl (decide (A ∧ B))) H) : Br (decide A) (tb σ H Q) (Q (.bl false) H) := br_d (fun a => h2 _ (by rw [dec_congr (q := A ∧ B) ⟨fun b => ⟨a, b⟩, fun z => z.2⟩]; exact q)) (fun a => by rw [← decide_eq_false (p := A ∧ B) fun z => a z.1]; exact q)
theorem br_orJ {A B : Prop} [Decidable A] [Decidable B] (h2 : ∀ Q' : VK, Q' (.bl (decide B)) H → tb σ H Q') (q : Q (.bl (decide (A ∨ B))) H) : Br (decide A) (Q (.bl true) H) (tb σ H Q) := br_d (fun a => by rw [← decide_eq_true (p := A ∨ B) (.inl a)]; exact q) (fun a => h2 _ (by rw [dec_congr (q := A ∨ B) ⟨fun b => .inr b, fun z => z.resolve_left a⟩]; exact q))
/-- the slots of a comprehension's names, empty -/
class WipeS (σ : L2.St) (vs : List Nat) (σ' : outParam L2.St) : Prop where
  h : wipe σ vs = σ'
instance wipe_nil : WipeS σ [] σ := ⟨rfl⟩
instance wipe_cons {n : Nat} {vs : List Nat} {σ1 σ2 : L2.St} [a : WipeS σ vs σ1] [b : SetS σ1 n none σ2] : WipeS σ (n :: vs) σ2 := ⟨by show (wipe σ vs).set n none = σ2; rw [a.h, b.h]⟩
instance i_var [a : Slot1 σ n v] : St1 (tVar n σ H Q) (Q v H) := ⟨fun h => ⟨v, a.h, h⟩⟩
instance i_c : St1 (tC v σ H Q) (Q v H) := ⟨fun h => h⟩
instance i_op {r : R2} : St1 (tOp r ta tb σ H Q) (ta σ H fun x H1 => tb σ H1 fun y H2 => r x y H2 Q) := ⟨fun h => h⟩
instance i_opS {r : R2S} : St1 (tOpS r ta tb σ H Q) (ta σ H fun x H1 => tb σ H1 fun y H2 => r σ x y H2 Q) := ⟨fun h => h⟩
instance i_un {r : V → Hp → VK → Prop} : St1 (tUn r ta σ H Q) (ta σ H fun x H1 => r x H1 Q) := ⟨fun h => h⟩
instance i_unS {r : L2.St → V → Hp → VK → Prop} : St1 (tUnS r ta σ H Q) (ta σ H fun x H1 => r σ x H1 Q) := ⟨fun h => h⟩
instance i_nil : St1 (tNil σ H QA) (QA [] H) := ⟨fun h => h⟩
instance i_cons : St1 (tCons ta tr σ H QA) (ta σ H fun x H1 => tr σ H1 fun xs H2 => QA (x :: xs) H2) := ⟨fun h => h⟩
instance i_cb {r : List V → Hp → VK → Prop} : St1 (tCB r as σ H Q) (as σ H fun vs H1 => r vs H1 Q) := ⟨fun h => h⟩
instance i_cbS {r : L2.St → List V → Hp → VK → Prop} : St1 (tCBS r as σ H Q) (as σ H fun vs H1 => r σ vs H1 Q) := ⟨fun h => h⟩
/-- the arguments with the defaults -/
class AppV (vs ds : List V) (ws : outParam (List V)) : Prop where
  h : vs ++ ds = ws
instance app_nil {ds : List V} : AppV [] ds ds := ⟨rfl⟩
instance app_cons {vs ds ws : List V} [a : AppV vs ds ws] : AppV (v :: vs) ds (v :: ws) := ⟨by rw [List.cons_append, a.h]⟩
def SpAt (sp : Sp) (dvs vs : List V) (H : Hp) (Q : VK) (E : XK) : Prop := sp (vs ++ dvs) H Q E
instance i_fn {dvs : List V} : St1 (tCallSD sp dvs E as σ H Q) (as σ H fun vs H1 => SpAt sp dvs vs H1 Q (E σ)) := ⟨fun h => h⟩
instance i_sp {dvs vs ws : List V} {E : XK} [a : AppV vs dvs ws] : St1 (SpAt sp dvs vs H Q E) (sp ws H Q E) := ⟨fun h => by unfold SpAt; rw [a.h]; exact h⟩
def MkAt (C : Addr) (sp : Sp) (dvs vs : List V) (H : Hp) (Q : VK) (E : XK) : Prop := rMk C sp E (vs ++ dvs) H Q
instance i_mk {C : Addr} {dvs : List V} : St1 (tMkS C sp dvs E as σ H Q) (as σ H fun vs H1 => MkAt C sp dvs vs H1 Q (E σ)) := ⟨fun h => h⟩
instance i_mkA {C : Addr} {dvs vs ws : List V} {E : XK} [a : AppV vs dvs ws] : St1 (MkAt C sp dvs vs H Q E) (rMk C sp E ws H Q) := ⟨fun h => by unfold MkAt; rw [a.h]; exact h⟩
instance i_tupE : St1 (tTup as σ H Q) (as σ H fun xs H1 => rTup xs H1 Q) := ⟨fun h => h⟩
instance i_lstE : St1 (tLst as σ H Q) (as σ H fun xs H1 => rLst xs H1 Q) := ⟨fun h => h⟩
instance i_fld {f : Str} : St1 (tFld K ta f σ H Q) (ta σ H fun x H1 => rFld K f x H1 Q) := ⟨fun h => h⟩
instance i_test : St1 (tTest te σ H QB) (te σ H fun x H' => rTest x H' QB) := ⟨fun h => h⟩
instance i_testB : St1 (rTest (.bl b) H QB) (QB b H) := ⟨r_test⟩
instance i_tru : St1 (tTru K te σ H QB) (te σ H fun x H' => rTru K x H' QB) := ⟨fun h => h⟩
instance i_truB : St1 (rTru K (.bl b) H QB) (QB b H) := ⟨r_truB⟩
instance i_not : St1 (tNot tt σ H QB) (tt σ H fun c H1 => QB (!c) H1) := ⟨fun h => h⟩
instance i_and : St1 (tAnd tt tu σ H QB) (tt σ H fun c H1 => Br c (tu σ H1 QB) (QB false H1)) := ⟨fun h => h⟩
instance i_or : St1 (tOr tt tu σ H QB) (tt σ H fun c H1 => Br c (QB true H1) (tu σ H1 QB)) := ⟨fun h => h⟩
instance i_andV : St1 (tAndV ta tb σ H Q) (ta σ H fun x H1 => rAndV tb σ x H1 Q) := ⟨fun h => h⟩
instance i_orV : St1 (tOrV ta tb σ H Q) (ta σ H fun x H1 => rOrV tb σ x H1 Q) := ⟨fun h => h⟩
instance i_notV : St1 (tNotV ta σ H Q) (ta σ H fun x H1 => rNotV x H1 Q) := ⟨fun h => h⟩
instance i_andB : St1 (rAndV tb σ (.bl b) H Q) (Br b (tb σ H Q) (Q (.bl false) H)) := ⟨r_andV⟩
instance i_orB : St1 (rOrV tb σ (.bl b) H Q) (Br b (Q (.bl true) H) (tb σ H Q)) := ⟨r_orV⟩
instance i_notB : St1 (rNotV (.bl b) H Q) (Q (.bl (!b)) H) := ⟨r_notV⟩
instance i_ifE : St1 (tIf tt ta tb σ H Q) (tt σ H fun c H1 => Br c (ta σ H1 Q) (tb σ H1 Q)) := ⟨fun h => h⟩
instance i_chain {r r' : R2} : St1 (tChain r r' ta tb tc σ H Q) (ta σ H fun x H1 => tb σ H1 fun y H2 => r x y H2 fun z H3 => rChain r' tc σ y z H3 Q) := ⟨fun h => h⟩
instance i_chainB {r' : R2} : St1 (rChain r' tc σ y (.bl b) H Q) (Br b (tc σ H fun w' H4 => r' y w' H4 Q) (Q (.bl false) H)) := ⟨r_chain⟩
instance j_add : St1 (uAdd K (.int i) (.int j) H Q) (Q (.int (i + j)) H) := ⟨v_add⟩
instance j_sub : St1 (uSub (.int i) (.int j) H Q) (Q (.int (i - j)) H) := ⟨v_sub⟩
instance j_lt : St1 (uLt (.int i) (.int j) H Q) (Q (.bl (decide (i < j))) H) := ⟨v_lt⟩
instance j_le : St1 (uLe (.int i) (.int j) H Q) (Q (.bl (decide (i ≤ j))) H) := ⟨v_le⟩
instance j_gt : St1 (uGt (.int i) (.int j) H Q) (Q (.bl (decide (j < i))) H) := ⟨v_gt⟩
instance j_ge : St1 (uGe (.int i) (.int j) H Q) (Q (.bl (decide (j ≤ i))) H) := ⟨v_ge⟩
instance j_eq : St1 (uEq K (.int i) (.int j) H Q) (Q (.bl (decide (i = j))) H) := ⟨v_eq⟩
instance j_ne : St1 (uNe K (.int i) (.int j) H Q) (Q (.bl (!decide (i = j))) H) := ⟨v_ne⟩
instance j_eqB {b b' : Bool} : St1 (uEq K (.bl b) (.bl b') H Q) (Q (.bl (decide (b = b'))) H) := ⟨v_eqB⟩
instance j_neB {b b' : Bool} : St1 (uNe K (.bl b) (.bl b') H Q) (Q (.bl (!decide (b = b'))) H) := ⟨v_neB⟩
instance j_eqS {z z' : Str} : St1 (uEq K (.str z) (.str z') H Q) (Q (.bl (decide (z = z'))) H) := ⟨v_eqS⟩
instance j_neS {z z' : Str} : St1 (uNe K (.str z) (.str z') H Q) (Q (.bl (!decide (z = z'))) H) := ⟨v_neS⟩
instance j_neg : St1 ((rU fun i => .int (-i)) (.int i) H Q) (Q (.int (-i)) H) := ⟨v_neg⟩
instance j_int : St1 (cInt [.int i] H Q) (Q (.int i) H) := ⟨v_int⟩
instance j_intB : St1 (cInt [.bl b] H Q) (Q (.int (if b then 1 else 0)) H) := ⟨v_intB⟩
instance j_bool : St1 (cBool [.bl b] H Q) (Q (.bl b) H) := ⟨v_boolB⟩
instance j_min : St1 (cMin2 [.int i, .int j] H Q) (Q (.int (min i j)) H) := ⟨v_min2⟩
instance j_max : St1 (cMax2 [.int i, .int j] H Q) (Q (.int (max i j)) H) := ⟨v_max2⟩
instance j_abs : St1 (cAbs [.int i] H Q) (Q (.int (if i < 0 then -i else i)) H) := ⟨v_abs⟩
instance j_isII : St1 (rIsi K [.int i, .ty "int"] H Q) (Q (.bl true) H) := ⟨v_isII⟩
instance j_isIB : St1 (rIsi K [.int i, .ty "bool"] H Q) (Q (.bl false) H) := ⟨v_isIB⟩
instance j_isBB : St1 (rIsi K [.bl b, .ty "bool"] H Q) (Q (.bl true) H) := ⟨v_isBB⟩
instance i_subj {a : Addr} {cls : Value} {d : Option Addr} : St1 (tSubj K mg a cls d te σ H Q) (te σ H fun x H1 => rSubj K mg a cls d x H1 Q) := ⟨fun h => h⟩
instance i_lstRg2 : St1 (tLstRg (tRg2 ta tb) σ H Q) (ta σ H fun x H1 => tb σ H1 fun y H2 => rRg2 x y H2 fun a b H3 => rLstRg a b H3 Q) := ⟨fun h => h⟩
instance j_rg2 {Q : Int → Int → Hp → Prop} : St1 (rRg2 (.int i) (.int j) H Q) (Q i j H) := ⟨v_rg2⟩
instance i_gname {k : L2.St → Hp → Prop} : St1 (gName n v σ H k) (Kont k σ n (some v) H) := ⟨fun h => h⟩
instance i_gcons {xs : List V} {g : TG} {tg : TGs} {k : L2.St → Hp → Prop} : St1 (gCons g tg (v :: xs) σ H k) (g v σ H fun σ' H' => tg xs σ' H' k) := ⟨g_cons⟩
instance i_gnil {k : L2.St → Hp → Prop} : St1 (gNil [] σ H k) (k σ H) := ⟨g_nil⟩
instance i_irng1 {R : It → Hp → Prop} : St1 (iRng1 as σ H R) (as σ H fun vs H1 => rRng1 vs H1 R) := ⟨fun h => h⟩
instance i_irng2 {R : It → Hp → Prop} : St1 (iRng2 as σ H R) (as σ H fun vs H1 => rRng2 vs H1 R) := ⟨fun h => h⟩
instance i_ilist {R : It → Hp → Prop} : St1 (iList K te σ H R) (te σ H fun x H1 => rSeqL K x H1 R) := ⟨fun h => h⟩
instance i_itup {R : It → Hp → Prop} : St1 (iTup K te σ H R) (te σ H fun x H1 => rSeqT K x H1 R) := ⟨fun h => h⟩
instance i_lc {wi : TI} {g : TG} {vs : List Nat} : St1 (tLc wi g tt te vs σ H Q) (wi σ H fun J H1 => rLc J g tt te vs σ H1 Q) := ⟨fun h => h⟩
instance i_bm {T : String} {r : V → List V → Hp → VK → Prop} : St1 (tBM K T r ta as σ H Q) (ta σ H fun x H1 => tyV K T x H1 ∧ as σ H1 fun xs H2 => r x xs H2 Q) := ⟨fun h => h⟩
instance i_bm0 {T : String} {r : V → List V → Hp → VK → Prop} : St1 (tBM0 K T r ta σ H Q) (ta σ H fun x H1 => tyV K T x H1 ∧ r x [] H1 Q) := ⟨fun h => h⟩
/-- the element of a comprehension, its names set -/
def LcK (vs : List Nat) (σw : L2.St) (te : TE) (k : VK) (σ2 : L2.St) (H2 : Hp) : Prop := wipe σ2 vs = σw ∧ te σ2 H2 k
instance i_lck {vs : List Nat} {σw : L2.St} [a : WipeS σ vs σw] : St1 (LcK vs σw te Q σ H) (te σ H Q) := ⟨fun h => ⟨a.h, h⟩⟩
theorem lcR {lo : Int} {n : Nat} {g : TG} {vs : List Nat} {σw : L2.St} [a : WipeS σ vs σw] (Pv : Nat → Addr → List V → Hp → Prop) (h0 : ∀ D H1, H D = none → Ext H H1 → H1 D = some (.lst []) → Pv 0 D [] H1)
    (hs : ∀ i D acc H1, H D = none → i < n → H1 D = some (.lst acc) → acc.length = i → Pv i D acc H1 → g (.int (lo + i)) σw H1 fun σ2 H2 => LcK vs σw te (fun y H4 => rAcc D (LcAt D (i + 1) (Pv (i + 1) D)) y H4) σ2 H2)
    (hd : ∀ D acc H1, H D = none → H1 D = some (.lst acc) → acc.length = n → Pv n D acc H1 → Q (.ref D) H1) : rLc (Itr lo n) g tYes te vs σ H Q :=
  lc_rng Pv h0 (fun i D acc H1 hD hi h1 hl hp => by rw [a.h]; exact hs i D acc H1 hD hi h1 hl hp) hd
theorem lcL {ad : Addr} {xs : List V} {g : TG} {vs : List Nat} {σw : L2.St} [a : WipeS σ vs σw] (Pv : Nat → Addr → List V → Hp → Prop) (h0 : ∀ D H1, H D = none → Ext H H1 → H1 D = some (.lst []) → Pv 0 D [] H1)
    (hl : ∀ i D acc H1, H D = none → i ≤ xs.length → Pv i D acc H1 → SqL K H1 ad xs)
    (hs : ∀ i x D acc H1, H D = none → xs[i]? = some x → H1 D = some (.lst acc) → acc.length = i → Pv i D acc H1 → g x σw H1 fun σ2 H2 => LcK vs σw te (fun y H4 => rAcc D (LcAt D (i + 1) (Pv (i + 1) D)) y H4) σ2 H2)
    (hd : ∀ D acc H1, H D = none → H1 D = some (.lst acc) → acc.length = xs.length → Pv xs.length D acc H1 → Q (.ref D) H1) : rLc (Itl K ad) g tYes te vs σ H Q :=
  lc_lst (xs := xs) Pv h0 hl (fun i x D acc H1 hD hi h1 hl' hp => by rw [a.h]; exact hs i x D acc H1 hD hi h1 hl' hp) hd
end
end GG

/-! GV: == of an own instance and a value of another kind, both ways. -/
namespace GG
open PySem L2 PyProof.Rows
section
variable {X : Cx} {CX : CXT} {k : Nat} {C f : Addr} {fd : FuncData} {ps : List Str} {sp : Sp} {E : L2.St → XK}
/-- x == y by the text's own ==, y of a built-in type T -/
def rOwnEqT (C : Addr) (sp : Sp) (E : L2.St → XK) : R2S := fun σ x y H Q => ∃ a dx fs, x = .ref a ∧ H a = some (.ins C dx fs) ∧ ((∃ i, y = .int i) ∨ ∃ b ys, y = .ref b ∧ H b = some (.tup ys)) ∧ sp [.ref a, y] H Q (E σ)
theorem op_ownEqT (S : Sm X.prog X.w X.K X.mg X.base C "__eq__" k ps sp) (hr : Room k X.A) (hx : Ps X E) (h1 : PySem.W.notFirst X.K C (.type "int") = true) (h2 : PySem.W.notFirst X.K C (.type "tuple") = true) : OpS X (compareOp .Eq) (rOwnEqT C sp E) := by
  intro pins s σ H x y v u Q I rx ry hq
  obtain ⟨f, fd, F, hs, hf, hb⟩ := S.ex
  obtain ⟨a, dx, fs, rfl, ha, hy, q⟩ := hq
  cases rx
  obtain ⟨_, _, J⟩ := inst_of I ha
  obtain ⟨m, hF⟩ := I.fr
  show wpAny (model X.prog X.w) X.A (richCompare .Eq _ _) (EP X pins σ Q) X.xe s
  rcases hy with ⟨i, rfl⟩ | ⟨b, ys, rfl, hb'⟩
  · obtain ⟨t, rfl⟩ := (show ∃ t, u = Value.int i t from ry)
    refine PySem.W.cmp_K (op := .Eq) (tb := .type "int") hr.units0 hF I.ok.mod.kin J (PySem.W.Looks.of_pure rfl) h1 hs hf ?_
    exact thn (run_at0 (vs := [.ref a, .int i]) F hr rfl hb (hx σ) I (.cons rfl (.cons ⟨t, rfl⟩ .nil)) q) fun _ _ z => cmpBack_ep z
  · cases (show u = Value.ref b from ry)
    obtain ⟨_, its, rv, o, g1, g2, n, g3⟩ := (show ObjOk X.prog X.w H s.heap b (.tup ys) from I.hok b _ hb')
    have ty : PySem.W.Looks (model X.prog X.w) s.heap (typeOf (.ref b)) (.type "tuple") := by
      intro A' Q' E' s' k' q'
      exact wpAny_typeOf (show s'.TypeIs (.ref b) "tuple" from ⟨o, k' _ _ g1, g2⟩) q'
    refine PySem.W.cmp_K (op := .Eq) (tb := .type "tuple") hr.units0 hF I.ok.mod.kin J ty h2 hs hf ?_
    exact thn (run_at0 (vs := [.ref a, .ref b]) F hr rfl hb (hx σ) I (.cons rfl (.cons rfl .nil)) q) fun _ _ z => cmpBack_ep z
/-- int.__eq__ declines an own instance -/
theorem int_eq_own {A : Around} {s : Shared} {i : Int} {t : Tok} {a : Addr} {Q : Value → Shared → Prop} {E : Value → Shared → Prop} {prog : Program} {w : World} {dx : Addr} (ho : s.heap.get? a = some (PySem.W.instObj C dx)) (h : Q .notImplemented s) :
    wpAny (model prog w) A (call (.builtin "int.__eq__") [.int i t, .ref a]) Q E s := by
  refine wpAny_call (codeAny_call_builtin F.slot_int_eq.plain F.entry_int_eq (F.slot_int_eq.check _ _ _ _ _ _ _ _ (typeIs_int s i t) (F.args_int_eq_2 _ _) ?_))
  obtain ⟨hp, g, d, tk, os⟩ := s
  have ho' : hp.get? a = some (PySem.W.instObj C dx) := ho
  unfold PySem.W.instObj at ho'
  wp_walk using wpAny_load ho'
  exact h
/-- y == x, y an int: int declines, the text's own == is asked -/
def rEqOwnR (C : Addr) (sp : Sp) (E : L2.St → XK) : R2S := fun σ y x H Q => ∃ a dx fs i, y = .int i ∧ x = .ref a ∧ H a = some (.ins C dx fs) ∧ sp [.ref a, .int i] H Q (E σ)
theorem op_eqOwnR (S : Sm X.prog X.w X.K X.mg X.base C "__eq__" k ps sp) (hr : Room k X.A) (hx : Ps X E) (hsub : PySem.W.subIn X.K (.ref C) (.type "int") = some false) : OpS X (compareOp .Eq) (rEqOwnR C sp E) := by
  intro pins s σ H y x v u Q I ry rx hq
  obtain ⟨f, fd, F, hs, hf, hb⟩ := S.ex
  obtain ⟨a, dx, fs, i, rfl, rfl, ha, q⟩ := hq
  cases rx
  obtain ⟨t, rfl⟩ := (show ∃ t, v = Value.int i t from ry)
  obtain ⟨_, _, J⟩ := inst_of I ha
  have ho : s.heap.get? a = some (PySem.W.instObj C dx) := (show ObjOk X.prog X.w H s.heap a (.ins C dx fs) from I.hok a _ ha).2.2.2.1
  have XK := I.kIn
  show wpAny (model X.prog X.w) X.A (richCompare .Eq _ _) (EP X pins σ Q) X.xe s
  have one : wpAny (model X.prog X.w) X.A (tryCompare (.ref a) "__eq__" (.int i t)) (fun r s' => ∃ v, r = some v ∧ EP X pins σ Q v s') X.xe s := by
    unfold tryCompare
    refine wpAny_bind (PySem.W.ifBound_K XK J hs hf (thn (run_at0 (vs := [.ref a, .int i]) F hr rfl hb (hx σ) I (.cons rfl (.cons ⟨t, rfl⟩ .nil)) q) fun v s' hv => ?_))
    have hv' := cmpBack_ep hv
    cases v <;> first | exact hv'.elim | exact wpAny_pure ⟨_, rfl, hv⟩
  unfold richCompare
  have on : oneThing? .Eq (.int i t) (.ref a) = none := by rfl
  simp only [on]
  refine wpAny_holding (wpAny_bind (wpAny_cRoomFor hr.units0 ?_))
  refine wpAny_bind (wpAny_typeOf (typeIs_int s i t) (wpAny_bind (J.type.here ?_)))
  have hne : (Value.type "int" != Value.ref C) = true := rfl
  rw [if_pos hne]
  refine wpAny_bind ((PySem.W.looks_subIn XK hsub).here ?_)
  simp only [Bool.false_eq_true, if_false, Bool.not_false, if_true]
  refine wpAny_bind (m := tryCompare (.int i t) _ (.ref a)) (wpAny_tryCompare_declines (typeIs_int s i t) PySem.F.slot_int_eq (int_eq_own ho ⟨rfl, ?_⟩))
  refine wpAny_bind (m := tryCompare (.ref a) _ (.int i t)) (thn one fun r s' hr' => ?_)
  obtain ⟨v, rfl, hq⟩ := hr'
  exact wpAny_pure hq
end
/-! ### properties -/
structure Pr (P : Program) (w : World) (K : PySem.W.Frag) (mg : Str → Option Value) (base : Heap) (C : Addr) (m : Str) (k : Nat) (ps : List Str) (sp : Sp) : Prop where
  ex : ∃ p g fd, FnOk P w K mg base (L2N.CX P w) k g fd ps sp ∧ PropOf K C m p g ∧ L2.Binds K fd ps []
  cls : Cls K C
theorem passN {X : Cx} : Passes (L2N.CX X.prog X.w) X E0 := fun _ _ _ _ _ _ _ h => by
  obtain ⟨_, _, _, _, _, _, _, _, _, _, _, _, z⟩ := h
  exact z.elim
theorem pe_pr {X : Cx} {C : Addr} {m : Str} {k : Nat} {ps : List Str} {sp : Sp} {e : Expr} {ta : TE} {pos : Pos} (F : Pr X.prog X.w X.K X.mg X.base C m k ps sp) (hr : Room (k + 1) X.A) (he : PE X e ta) (hab : attributeBase e m X.env (eval e X.env) = eval e X.env) :
    PE X (.Attribute e m pos) (tProp C sp [] E0 ta) := by
  obtain ⟨⟨p, g, fd, F, hp, hb⟩, c⟩ := F
  exact pe_prop he c hp F hr hb .nil (passN (X := X.nox)) hab
section
variable {K : PySem.W.Frag} {mg : Str → Option Value} {nx bk ct : L2.St → Hp → Prop} {rt : VK} {σ σ' σ1 σ2 : L2.St} {H : Hp} {t u : TS} {te ta tb tc : TE} {tt tu : TT} {as tr : TA} {Q : VK} {QB : Bool → Hp → Prop} {v x y : V} {E : L2.St → XK} {sp : Sp} {i j : Int} {n m : Nat} {b : Bool} {A B : Prop}
def rProp (C : Addr) (sp : Sp) (x : V) (H : Hp) (Q : VK) : Prop := ∃ a dx fs, x = .ref a ∧ H a = some (.ins C dx fs) ∧ sp [.ref a] H Q E0
instance i_prop {C : Addr} : St1 (tProp C sp [] E0 ta σ H Q) (ta σ H fun x H1 => rProp C sp x H1 Q) := ⟨fun h => h⟩
theorem v_prop {C a dx : Addr} {fs : List (Str × V)} (ha : H a = some (.ins C dx fs)) (q : sp [.ref a] H Q E0) : rProp C sp (.ref a) H Q := ⟨a, dx, fs, rfl, ha, q⟩
/-! ### own == with another kind -/
theorem v_ownEqI {C a dx : Addr} {fs : List (Str × V)} (ha : H a = some (.ins C dx fs)) (q : sp [.ref a, .int i] H Q (E σ)) : rOwnEqT C sp E σ (.ref a) (.int i) H Q := ⟨a, dx, fs, rfl, ha, .inl ⟨i, rfl⟩, q⟩
theorem v_ownEqU {C a dx b : Addr} {fs : List (Str × V)} {ys : List V} (ha : H a = some (.ins C dx fs)) (hb : H b = some (.tup ys)) (q : sp [.ref a, .ref b] H Q (E σ)) : rOwnEqT C sp E σ (.ref a) (.ref b) H Q := ⟨a, dx, fs, rfl, ha, .inr ⟨b, ys, rfl, hb⟩, q⟩
theorem v_eqOwnR {C a dx : Addr} {fs : List (Str × V)} (ha : H a = some (.ins C dx fs)) (q : sp [.ref a, .int i] H Q (E σ)) : rEqOwnR C sp E σ (.int i) (.ref a) H Q := ⟨a, dx, fs, i, rfl, rfl, ha, q⟩
/-! ### x, y = e, f -/
def rPar (n m : Nat) (nx : L2.St → Hp → Prop) (σ : L2.St) (vs : List V) (H : Hp) : Prop := ∃ v w, vs = [v, w] ∧ nx ((σ.set n (some v)).set m (some w)) H
instance (priority := high) i_parR : St1 (Run (tPar n m as) nx rt bk ct σ H) (as σ H fun vs H1 => rPar n m nx σ vs H1) := ⟨fun h => h⟩
instance i_parV [a : SetS σ n (some v) σ1] [b : SetS σ1 m (some x) σ2] : St1 (rPar n m nx σ [v, x] H) (nx σ2 H) := ⟨fun h => ⟨v, x, rfl, by rw [a.h, b.h]; exact h⟩⟩
/-! ### while -/
def rWh (m : Nat) (Pv : Nat → L2.St → Hp → Prop) (t : TS) (nx : L2.St → Hp → Prop) (rt : VK) (σ : L2.St) (b : Bool) (H : Hp) : Prop :=
  if b = true then ∃ N : L2.St → Hp → Prop, (∀ σ' H', N σ' H' → ∃ m', m' < m ∧ Pv m' σ' H') ∧ t ⟨N, rt, nx, N⟩ σ H else nx σ H
theorem run_while (Pv : Nat → L2.St → Hp → Prop) (h0 : ∃ m, Pv m σ H) (hs : ∀ m σ H, Pv m σ H → tt σ H fun b H1 => rWh m Pv t nx rt σ b H1) : Run (tWhile tt t) nx rt bk ct σ H := ⟨Pv, h0, hs⟩
instance i_wh {Pv : Nat → L2.St → Hp → Prop} : St1 (rWh m Pv t nx rt σ b H) (Br b (Run t (fun σ' H' => ∃ m', m' < m ∧ Pv m' σ' H') rt nx (fun σ' H' => ∃ m', m' < m ∧ Pv m' σ' H') σ H) (nx σ H)) := ⟨fun h => by
  cases b with
  | true => exact iteT ⟨_, fun _ _ z => z, h⟩
  | false => exact iteF h⟩
end
/-! ### a def with one default -/
theorem funD_mk {K : PySem.W.Frag} {x qual : Str} {st : Stmt} {f T : Addr} {oc oc' : Value} {od an od' : Option Addr} {osl osl' : Array (Option Value)} {kV doc pm cdv ct u : Value} {n : Nat} {v : V} (l : K.lookup f = some ⟨oc, od, .func (PySem.W.fnOf x qual (defArgs st) (defBody st) (defScope st) (.ref T) kV doc pm an cdv ct), osl⟩)
    (c : PySem.W.codeIn K cdv qual = true) (k : PySem.W.keepIn K (.ref f) = true) (lT : K.lookup T = some ⟨oc', od', .seq #[u] n, osl'⟩) (r : RelV v u) :
    FunD K x qual (defArgs st) (defBody st) (defScope st) [v] [] f (PySem.W.fnOf x qual (defArgs st) (defBody st) (defScope st) (.ref T) kV doc pm an cdv ct) :=
  ⟨⟨oc, od, _, kV, doc, pm, an, cdv, ct, osl, rfl, l, c, .inr ⟨by simp, T, _, [u], n, rfl, lT, rfl, .cons r .nil⟩, .inl rfl⟩, k⟩
end GG

/-! GW: i op x, i an int, x an own instance: int declines, the text's own reflected operator is asked. -/
namespace GG
open PySem L2 PyProof.Rows
section
variable {X : Cx} {CX : CXT} {k : Nat} {C f : Addr} {fd : FuncData} {ps : List Str} {sp : Sp} {E : L2.St → XK}
/-- a built-in of int declines an own instance -/
def Declines (C : Addr) (id : String) : Prop := ∀ (prog : Program) (w : World) (A : Around) (s : Shared) (i : Int) (t : Tok) (a : Addr) (Q : Value → Shared → Prop) (E : Value → Shared → Prop) (dx : Addr),
  s.heap.get? a = some (PySem.W.instObj C dx) → Q .notImplemented s → wpAny (model prog w) A (call (.builtin id) [.int i t, .ref a]) Q E s
theorem int_add_own : Declines C "int.__add__" := by
  intro prog w A s i t a Q E dx ho h
  refine wpAny_call (codeAny_call_builtin F.slot_int_add.plain F.entry_int_add (F.slot_int_add.check _ _ _ _ _ _ _ _ (typeIs_int s i t) (F.args_int_add_2 _ _) ?_))
  obtain ⟨hp, g, d, tk, os⟩ := s
  have ho' : hp.get? a = some (PySem.W.instObj C dx) := ho
  unfold PySem.W.instObj at ho'
  wp_walk using wpAny_load ho'
  exact h
theorem int_sub_own : Declines C "int.__sub__" := by
  intro prog w A s i t a Q E dx ho h
  refine wpAny_call (codeAny_call_builtin F.slot_int_sub.plain F.entry_int_sub (F.slot_int_sub.check _ _ _ _ _ _ _ _ (typeIs_int s i t) (F.args_int_sub_2 _ _) ?_))
  obtain ⟨hp, g, d, tk, os⟩ := s
  have ho' : hp.get? a = some (PySem.W.instObj C dx) := ho
  unfold PySem.W.instObj at ho'
  wp_walk using wpAny_load ho'
  exact h
theorem int_mul_own : Declines C "int.__mul__" := by
  intro prog w A s i t a Q E dx ho h
  refine wpAny_call (codeAny_call_builtin F.slot_int_mul.plain F.entry_int_mul (F.slot_int_mul.check _ _ _ _ _ _ _ _ (typeIs_int s i t) (F.args_int_mul_2 _ _) ?_))
  obtain ⟨hp, g, d, tk, os⟩ := s
  have ho' : hp.get? a = some (PySem.W.instObj C dx) := ho
  unfold PySem.W.instObj at ho'
  wp_walk using wpAny_load ho'
  exact h
def IntL (C : Addr) (nm : String) : Prop := ∃ id, Slot "int" (PySem.dunder nm) id ∧ fillsNumberSlot (.type "int") nm = pure true ∧ Declines C id
theorem il_add : IntL C "add" := ⟨_, F.slot_int_add, F.fills_int_add, int_add_own⟩
theorem il_sub : IntL C "sub" := ⟨_, F.slot_int_sub, F.fills_int_sub, int_sub_own⟩
theorem il_mul : IntL C "mul" := ⟨_, F.slot_int_mul, F.fills_int_mul, int_mul_own⟩
theorem Sm.lk {P : Program} {w : World} {K : PySem.W.Frag} {mg : Str → Option Value} {base : Heap} {name : Str} (S : Sm P w K mg base C name k ps sp) : ∃ f, PySem.W.findIn K (.ref C) name = some (some (.ref f)) := by
  obtain ⟨f, fd, F, hs, _⟩ := S.ex
  exact ⟨f, hs⟩
def rIntOwn (C : Addr) (sp : Sp) (E : L2.St → XK) : R2S := fun σ y x H Q => ∃ a dx fs i, y = .int i ∧ x = .ref a ∧ H a = some (.ins C dx fs) ∧ sp [.ref a, .int i] H Q (E σ)
theorem op_intOwn {op : Operator} (S : Sm X.prog X.w X.K X.mg X.base C (dunderR op.info.2) k ps sp) (hr : Room k X.A) (hx : Ps X E) (hc : PySem.W.selfFirst X.K C = true) (hl : ∃ fn, PySem.W.findIn X.K (.ref C) (PySem.dunder op.info.2) = some (some (.ref fn)))
    (hil : IntL C op.info.2) (hsub : PySem.W.subIn X.K (.ref C) (.type "int") = some false) : OpS X (binaryOp op) (rIntOwn C sp E) := by
  intro pins s σ H y x v u Q I ry rx hq
  obtain ⟨f, fd, F, hs, hf, hb⟩ := S.ex
  obtain ⟨fn, hl⟩ := hl
  obtain ⟨id, hsl, hfl, hd⟩ := hil
  obtain ⟨a, dx, fs, i, rfl, rfl, ha, q⟩ := hq
  cases rx
  obtain ⟨t, rfl⟩ := (show ∃ t, v = Value.int i t from ry)
  obtain ⟨_, _, J⟩ := inst_of I ha
  have ho : s.heap.get? a = some (PySem.W.instObj C dx) := (show ObjOk X.prog X.w H s.heap a (.ins C dx fs) from I.hok a _ ha).2.2.2.1
  have XK := I.kIn
  have J' : PySem.W.Looks (model X.prog X.w) s.heap (typeOf (.ref a)) (.ref C) := J.type
  have one := PySem.W.ksp_try (b := .int i t) XK J hs hf (thn (run_at0 (vs := [.ref a, .int i]) F hr rfl hb (hx σ) I (.cons rfl (.cons ⟨t, rfl⟩ .nil)) q) fun _ _ z => cmpBack_ep z)
  obtain ⟨cd, rest, hcd, hm⟩ := PySem.W.ksp_first hc
  rcases hi : op.info with ⟨sym, nm⟩
  rw [hi] at hl hsl hfl one
  dsimp only at hl hsl hfl one
  have two : ∀ Q' : Option Value → Shared → Prop, Q' none s → wpAny (model X.prog X.w) X.A (tryMethod (.int i t) (PySem.dunder nm) (.ref a)) Q' X.xe s := fun Q' q' => wpAny_tryMethod_declines (typeIs_int s i t) hsl (hd _ _ _ s i t a _ _ dx ho ⟨rfl, q'⟩)
  clear q I ha hx ho J
  obtain ⟨hh, g, d, tt, os⟩ := s
  have L1 : PySem.W.Looks (model X.prog X.w) hh (typeOf (.int i t)) (.type "int") := PySem.W.Looks.of_pure rfl
  have L2 : PySem.W.Looks (model X.prog X.w) hh (typeOf (.ref a)) (.ref C) := J'
  have L3 : PySem.W.Looks (model X.prog X.w) hh (fillsNumberSlot (.ref C) nm) true := PySem.W.fills_K XK hcd hm hl
  have L4 : PySem.W.Looks (model X.prog X.w) hh (fillsNumberSlot (.type "int") nm) true := PySem.W.Looks.of_pure hfl
  have L5 : PySem.W.Looks (model X.prog X.w) hh (isSubtype (.ref C) (.type "int")) false := PySem.W.looks_subIn XK hsub
  have L6 : PySem.W.Looks (model X.prog X.w) hh (numberSlotInPython (.type "int") nm) false := PySem.W.Looks.of_pure rfl
  have hne : (Value.type "int" == Value.ref C) = false := rfl
  simp only [binaryOp, hi]
  refine wpAny_holding (wpAny_bind ?_)
  unfold binaryOp1
  refine wpAny_bind (L1.at (wpAny_bind (L2.at (wpAny_bind (L4.at ?_)))))
  simp only [hne, Bool.false_eq_true, if_false]
  ksp_lk
  refine two _ ?_
  ksp_lk
  refine wpAny_mono one (fun r s' hr' => ?_) fun _ _ e => e
  obtain ⟨v, rfl, hq⟩ := hr'
  ksp_lk
  exact hq
/-- x op y, each an instance of the class at C or an int, not both ints -/
def rEither (C : Addr) (sp spR : Sp) (E : L2.St → XK) : R2S := fun σ x y H Q => rOwn C sp E σ x y H Q ∨ (rOwnI C sp E σ x y H Q ∨ rIntOwn C spR E σ x y H Q)
theorem op_either {op : Operator} {k2 : Nat} {ps2 : List Str} {spR : Sp} (S : Sm X.prog X.w X.K X.mg X.base C (PySem.dunder op.info.2) k ps sp) (hr : Room k X.A) (R : Sm X.prog X.w X.K X.mg X.base C (dunderR op.info.2) k2 ps2 spR) (hr2 : Room k2 X.A) (hx : Ps X E)
    (hc : PySem.W.selfFirst X.K C = true) (hi : RightT X.K C "int" op.info.2) (hil : IntL C op.info.2) (hsub : PySem.W.subIn X.K (.ref C) (.type "int") = some false) : OpS X (binaryOp op) (rEither C sp spR E) :=
  (op_own S hr hx hc).or ((op_ownI S hr hx hc hi).or (op_intOwn R hr2 hx hc S.lk hil hsub))
/-- x op y, x an instance of the class at C, y one or an int -/
def rEitherR (C : Addr) (sp : Sp) (E : L2.St → XK) : R2S := fun σ x y H Q => rOwn C sp E σ x y H Q ∨ rOwnI C sp E σ x y H Q
theorem op_eitherR {op : Operator} (S : Sm X.prog X.w X.K X.mg X.base C (PySem.dunder op.info.2) k ps sp) (hr : Room k X.A) (hx : Ps X E)
    (hc : PySem.W.selfFirst X.K C = true) (hi : RightT X.K C "int" op.info.2) : OpS X (binaryOp op) (rEitherR C sp E) := (op_own S hr hx hc).or (op_ownI S hr hx hc hi)
end
section
variable {nx bk ct : L2.St → Hp → Prop} {rt : VK} {σ : L2.St} {H : Hp} {te : TE} {Q : VK} {v x y : V} {E : L2.St → XK} {sp spR : Sp} {i j : Int} {n m : Nat} {C a b dx dy : Addr} {fs gs : List (Str × V)}
theorem v_e1 (ha : H a = some (.ins C dx fs)) (hb : H b = some (.ins C dy gs)) (q : sp [.ref a, .ref b] H Q (E σ)) : rEither C sp spR E σ (.ref a) (.ref b) H Q := .inl ⟨a, dx, fs, b, dy, gs, rfl, ha, rfl, hb, q⟩
theorem v_e2 (ha : H a = some (.ins C dx fs)) (q : sp [.ref a, .int i] H Q (E σ)) : rEither C sp spR E σ (.ref a) (.int i) H Q := .inr (.inl ⟨a, dx, fs, i, rfl, ha, rfl, q⟩)
theorem v_e3 (ha : H a = some (.ins C dx fs)) (q : spR [.ref a, .int i] H Q (E σ)) : rEither C sp spR E σ (.int i) (.ref a) H Q := .inr (.inr ⟨a, dx, fs, i, rfl, rfl, ha, q⟩)
theorem v_er1 (ha : H a = some (.ins C dx fs)) (hb : H b = some (.ins C dy gs)) (q : sp [.ref a, .ref b] H Q (E σ)) : rEitherR C sp E σ (.ref a) (.ref b) H Q := .inl ⟨a, dx, fs, b, dy, gs, rfl, ha, rfl, hb, q⟩
theorem v_er2 (ha : H a = some (.ins C dx fs)) (q : sp [.ref a, .int i] H Q (E σ)) : rEitherR C sp E σ (.ref a) (.int i) H Q := .inr ⟨a, dx, fs, i, rfl, ha, rfl, q⟩
theorem v_iR (ha : H a = some (.ins C dx fs)) (q : sp [.ref a, .int i] H Q (E σ)) : rIntOwn C sp E σ (.int i) (.ref a) H Q := ⟨a, dx, fs, i, rfl, rfl, ha, q⟩
instance i_asg2 : St1 (Run (tAsg2 te (gName n) (gName m)) nx rt bk ct σ H) (te σ H fun x H1 => Kont (fun σ' H' => Kont nx σ' m (some x) H') σ n (some x) H1) := ⟨fun h => h⟩
end
end GG

/-! GH: defs called within an except suite. -/
namespace GG
open PySem L2 PyProof.Rows
/-- a def of the top, as it is called within an except suite -/
structure FnS (P : Program) (w : World) (K : PySem.W.Frag) (mg : Str → Option Value) (base : Heap) (x : Str) (k : Nat) (ps : List Str) (sp : Sp) : Prop where
  ex : ∃ f fd, L2H.FnH P w K mg base (L2N.CX P w) k f fd ps sp ∧ mg x = some (.ref f) ∧ PySem.W.keepIn K (.ref f) = true ∧ L2.Binds K fd ps []
theorem _root_.L2H.RoomH.units {k : Nat} {A : Around} (r : L2H.RoomH k A) : A.units + 64 < cLine := by have := r.un; omega
theorem _root_.L2H.RoomH.units0 {k : Nat} {A : Around} (r : L2H.RoomH k A) : A.units < cLine := by have := r.un; omega
section
variable {X : Cx} {k : Nat} {ps : List Str} {sp : Sp} {E : L2.St → XK} {x : Str} {p pos : Pos} {e : Expr} {es : List Expr} {t : TA}
theorem pe_fnH (F : FnS X.prog X.w X.K X.mg X.base x k ps sp) (hr : L2H.RoomH k X.A) (hc : L2H.HotC X) (hx : Ps X E) (ha : PA X (e :: es) t) (hg : Gl X x := by rfl) (hdb : (x == ("__debug__" : Str)) = false := by decide)
    (he : starEach (e :: es) X.env = (false, eval e X.env) :: starEach es X.env := by rfl) (hpl : (backTo pos (starEach es X.env)).any (·.1) = false := by rfl) :
    PE X (.Call (.Name x p) (e :: es) [] pos) (tCallSD sp [] E t) := by
  obtain ⟨f, fd, F, hm, hk, hb⟩ := F.ex
  refine ⟨fun pins s σ H Q I h => ?_⟩
  refine wpAny_Call_Name_kw (ld_glob I hg hm ?_ hdb)
  refine PySem.W.callWith_K (h₀ := X.base) I.ok.mod.kin hk (thn (ha.run pos pins s σ H _ I h) fun us s1 ⟨vs, H1, I1, r, q⟩ => ⟨I1.kIn, ?_⟩) he hpl
  have q : sp (vs ++ []) H1 Q (E σ) := q
  rw [List.append_nil] at q
  exact L2H.run_fnH (E := E) F hr hc hb (hx σ) I1 r q
/-- the suite bears the exception that is handled -/
theorem hot_suite {a : Addr} {oe : Obj} {cls : Value} {d : Option Addr} {pn : List (Addr × Obj)} (hz : L2N.Zn cls d oe) (hf : ∃ vs, oe.data = .fields vs) : L2H.HotC (X.suite a ((a, oe) :: pn)) := by
  obtain ⟨vs, hd⟩ := hf
  exact ⟨(a, oe), ⟨rfl, vs, hd, hz.2.2 vs hd⟩, List.Mem.head _⟩
theorem room_suite {a : Addr} {j : Nat} {pn : List (Addr × Obj)} (hr : Room k X.A) (h : j ≤ k) : L2H.RoomH j (X.suite a pn).A := L2H.RoomH.mono (k := k) ⟨hr.dp, hr.un⟩ h
theorem hot_def {CX : CXT} {P : Program} {w : World} {K : PySem.W.Frag} {mg : Str → Option Value} {base : Heap} {N : List Str} {qual : Str} {scope : Scope} {f : Addr} {cd : Value} {A : Around} {outer : List Env} {s : Shared} {H : Hp} {E : XK} {p : Addr × Obj} (h : L2H.Hot1 A p) :
    L2H.HotC (L2H.cxH CX P w K mg base N qual scope f cd A outer s H E p) := ⟨p, ⟨h.1, h.2⟩, List.Mem.head _⟩
end
/-! ### a cut behind a statement -/
theorem run_cut {t : TS} {nx bk ct : L2.St → Hp → Prop} {rt : VK} {σ : L2.St} {H : Hp} (P : L2.St → Hp → Prop) (h1 : ∀ nx' : L2.St → Hp → Prop, (∀ σ' H', P σ' H' → nx' σ' H') → Run t nx' rt bk ct σ H) (h2 : ∀ σ' H', P σ' H' → nx σ' H') : Run t nx rt bk ct σ H := h1 nx h2
theorem is_if {tt : TT} {t u : TS} {nx bk ct : L2.St → Hp → Prop} {rt : VK} {σ : L2.St} {H : Hp} (h : Run (tIfS tt t u) nx rt bk ct σ H) : Run (tIfS tt t u) nx rt bk ct σ H := h
/-! ### methods -/
section
variable {σ : L2.St} {H : Hp} {ta : TE} {as : TA} {Q : VK} {E : L2.St → XK} {sp : Sp} {C a dx : Addr} {m : Str} {dvs : List V} {fs : List (Str × V)} {v : V}
def SpM (sp : Sp) (dvs : List V) (a : Addr) (vs : List V) (H : Hp) (Q : VK) (E : XK) : Prop := sp (.ref a :: (vs ++ dvs)) H Q E
def rMt (C : Addr) (m : Str) (sp : Sp) (dvs : List V) (E : L2.St → XK) (as : TA) (σ : L2.St) (x : V) (H : Hp) (Q : VK) : Prop := ∃ a dx fs, x = .ref a ∧ H a = some (.ins C dx fs) ∧ fs.lookup m = none ∧ as σ H fun vs H2 => SpM sp dvs a vs H2 Q (E σ)
instance i_mt : St1 (tMtS C m sp dvs E ta as σ H Q) (ta σ H fun x H1 => rMt C m sp dvs E as σ x H1 Q) := ⟨fun h => h⟩
theorem v_mt (ha : H a = some (.ins C dx fs)) (hl : fs.lookup m = none) (q : as σ H fun vs H2 => SpM sp dvs a vs H2 Q (E σ)) : rMt C m sp dvs E as σ (.ref a) H Q := ⟨a, dx, fs, rfl, ha, hl, q⟩
instance i_spM {vs ws : List V} {E : XK} [x : AppV vs dvs ws] : St1 (SpM sp dvs a vs H Q E) (sp (.ref a :: ws) H Q E) := ⟨fun h => by unfold SpM; rw [x.h]; exact h⟩
end
end GG

namespace GM
theorem fmod_eq (x y : Int) : x.fmod y = x - y * x.fdiv y := by
  have := Int.mul_fdiv_add_fmod x y
  omega
theorem gcd_fmod (x y : Int) : Int.gcd y (x.fmod y) = Int.gcd x y := by
  rw [fmod_eq, Int.gcd_comm x y]
  exact Int.gcd_sub_mul_left_right y x (x.fdiv y)
theorem fmod_neg (x y : Int) : x.fmod (-y) = -((-x).fmod y) := by
  have h := Int.neg_fmod_neg (a := -x) (b := y)
  rw [Int.neg_neg] at h
  exact h
theorem fmod_lt {x y : Int} (h : y ≠ 0) : (x.fmod y).natAbs < y.natAbs := by
  rcases Int.lt_or_lt_of_ne h with h | h
  · have e := fmod_neg x (-y)
    rw [Int.neg_neg] at e
    have h1 := Int.fmod_nonneg_of_pos (-x) (b := -y) (by omega)
    have h2 := Int.fmod_lt_of_pos (-x) (b := -y) (by omega)
    omega
  · have h1 := Int.fmod_nonneg_of_pos x h
    have h2 := Int.fmod_lt_of_pos x h
    omega
/-- in lowest terms -/
theorem share_math {t b c : Int} (hb : b ≠ 0) (hc : (b < 0 ∧ c = -(Int.gcd t b : Int)) ∨ (0 < b ∧ c = (Int.gcd t b : Int))) :
    c ≠ 0 ∧ c.natAbs ≤ b.natAbs ∧ 0 < b.fdiv c ∧ Int.gcd (t.fdiv c) (b.fdiv c) = 1 ∧ t.fdiv c * b = t * b.fdiv c ∧ (t.fdiv c).natAbs ≤ t.natAbs ∧ (b.fdiv c).natAbs ≤ b.natAbs := by
  have hg : 0 < Int.gcd t b := Int.gcd_pos_of_ne_zero_right t hb
  have hct : c ∣ t := by
    rcases hc with ⟨_, rfl⟩ | ⟨_, rfl⟩
    · exact Int.neg_dvd.mpr (Int.gcd_dvd_left t b)
    · exact Int.gcd_dvd_left t b
  have hcb : c ∣ b := by
    rcases hc with ⟨_, rfl⟩ | ⟨_, rfl⟩
    · exact Int.neg_dvd.mpr (Int.gcd_dvd_right t b)
    · exact Int.gcd_dvd_right t b
  have hca : c.natAbs = Int.gcd t b := by
    rcases hc with ⟨_, rfl⟩ | ⟨_, rfl⟩ <;> simp
  have hc0 : c ≠ 0 := by
    intro z
    rw [z] at hca
    simp at hca
    omega
  obtain ⟨T, rfl⟩ := hct
  obtain ⟨B, rfl⟩ := hcb
  have e1 : (c * T).fdiv c = T := Int.mul_fdiv_cancel_left T hc0
  have e2 : (c * B).fdiv c = B := Int.mul_fdiv_cancel_left B hc0
  rw [e1, e2]
  have hB0 : B ≠ 0 := fun z => hb (by rw [z, Int.mul_zero])
  have h1 : 1 ≤ c.natAbs := by omega
  refine ⟨hc0, ?_, ?_, ?_, ?_, ?_, ?_⟩
  · rw [Int.natAbs_mul]
    exact Nat.le_mul_of_pos_right _ (by omega)
  · rcases hc with ⟨h, e⟩ | ⟨h, e⟩
    · have hcn : c < 0 := by omega
      exact Int.pos_of_mul_neg_right h (by omega) 
    · have hcp : 0 < c := by omega
      exact Int.pos_of_mul_pos_left (by rw [Int.mul_comm]; exact h) hcp
  · rw [Int.gcd_mul_left] at hca
    have : c.natAbs * Int.gcd T B = c.natAbs * 1 := by omega
    exact Nat.eq_of_mul_eq_mul_left h1 this
  · rw [Int.mul_comm c T, Int.mul_assoc, Int.mul_left_comm, ← Int.mul_assoc, Int.mul_comm c T]
  · rw [Int.natAbs_mul]
    exact Nat.le_mul_of_pos_left _ h1
  · rw [Int.natAbs_mul]
    exact Nat.le_mul_of_pos_left _ h1
theorem dvd_cop {a b c : Int} (h : a ∣ b * c) (g : Int.gcd a b = 1) : a ∣ c := by
  have := Int.dvd_gcd_mul_iff_dvd_mul.mpr h
  rw [g] at this
  simpa using this
/-- two fractions in lowest terms are equal only if they are the same -/
theorem share_eq {T B T' B' : Int} (h1 : Int.gcd T B = 1) (h2 : Int.gcd T' B' = 1) (hB : 0 < B) (hB' : 0 < B') (h : T * B' = T' * B) : T = T' ∧ B = B' := by
  have d1 : B ∣ B' := by
    have : B ∣ T * B' := ⟨T', by rw [h, Int.mul_comm]⟩
    exact dvd_cop this (by rw [Int.gcd_comm]; exact h1)
  have d2 : B' ∣ B := by
    have : B' ∣ T' * B := ⟨T, by rw [← h, Int.mul_comm]⟩
    exact dvd_cop this (by rw [Int.gcd_comm]; exact h2)
  have e : B = B' := Int.dvd_antisymm (by omega) (by omega) d1 d2
  subst e
  exact ⟨Int.eq_of_mul_eq_mul_right (by omega) h, rfl⟩
/-- a step of Euclid's: the product falls to a half -/
theorem euclid_half {a b : Int} (hb : 0 < b) (h : b ≤ a) : b * (a % b) * 2 ≤ a * b := by
  have h1 := Int.emod_nonneg a (b := b) (by omega)
  have h2 := Int.emod_lt_of_pos a hb
  have h3 := Int.mul_ediv_add_emod a b
  have h4 : 1 ≤ a / b := by
    exact Int.le_ediv_of_mul_le hb (by omega)
  have h5 : b ≤ b * (a / b) := by
    have := Int.mul_le_mul_of_nonneg_left h4 (show 0 ≤ b by omega)
    omega
  have h6 : a % b * 2 ≤ a := by omega
  have := Int.mul_le_mul_of_nonneg_left h6 (show 0 ≤ b by omega)
  rw [Int.mul_assoc, Int.mul_comm a b]
  exact this
theorem gcd_emod (a b : Int) : Int.gcd b (a % b) = Int.gcd a b := by
  rw [Int.gcd_comm a b]
  have e : a % b = a - b * (a / b) := by
    have := Int.mul_ediv_add_emod a b
    omega
  rw [e]
  exact Int.gcd_sub_mul_left_right b a (a / b)
theorem pow_lt_of {x : Int} {n m : Nat} (hx : 1 ≤ x) (h : x * 2 ^ n < 2 ^ m) : n < m := by
  rcases Nat.lt_or_ge n m with h' | h'
  · exact h'
  · exfalso
    have h1 : (2 : Int) ^ m ≤ 2 ^ n := by
      have := Nat.pow_le_pow_right (show 0 < 2 by decide) h'
      exact_mod_cast this
    have h2 : (0 : Int) < 2 ^ n := Int.pow_pos (by decide)
    have h3 := Int.mul_le_mul_of_nonneg_right hx (Int.le_of_lt h2)
    omega
theorem abs_lt_mul {x y : Int} {m n : Int} (hx : -m < x ∧ x < m) (hy : -n < y ∧ y < n) : -(m * n) < x * y ∧ x * y < m * n := by
  have h1 : x.natAbs < m.natAbs := by omega
  have h2 : y.natAbs < n.natAbs := by omega
  have h3 : (x * y).natAbs < (m * n).natAbs := by
    rw [Int.natAbs_mul, Int.natAbs_mul]
    exact Nat.mul_lt_mul'' h1 h2
  have h4 : 0 ≤ m * n := Int.mul_nonneg (by omega) (by omega)
  omega
/-- the sign -/
theorem sign_of {T B t b : Int} (hB : 0 < B) (h : T * b = t * B) (hb : b ≠ 0) : Int.sign T = Int.sign (t * b) := by
  have e : Int.sign T * Int.sign b = Int.sign t := by
    have := congrArg Int.sign h
    rw [Int.sign_mul, Int.sign_mul, Int.sign_eq_one_of_pos hB, Int.mul_one] at this
    exact this
  rw [Int.sign_mul, ← e, Int.mul_assoc]
  have : Int.sign b * Int.sign b = 1 := by
    rcases Int.lt_or_lt_of_ne hb with h | h
    · rw [Int.sign_eq_neg_one_of_neg h]; rfl
    · rw [Int.sign_eq_one_of_pos h]; rfl
  rw [this, Int.mul_one]
theorem cross {A B1 X B3 b y : Int} (h0 : B1 ≠ 0) (h1 : A * B1 = X * B3) (h2 : X * b = y * B1) : A * b = y * B3 := by
  have h : (A * b) * B1 = (y * B3) * B1 := by
    rw [Int.mul_right_comm, h1, Int.mul_right_comm, h2, Int.mul_right_comm]
  exact Int.eq_of_mul_eq_mul_right h0 h
theorem abs_he {T B t b : Int} (hB : 0 < B) (h : T * b = t * B) : (T.natAbs : Int) * (b.natAbs : Int) = (t.natAbs : Int) * B := by
  have e := congrArg Int.natAbs h
  rw [Int.natAbs_mul, Int.natAbs_mul] at e
  have e2 : ((T.natAbs * b.natAbs : Nat) : Int) = ((t.natAbs * B.natAbs : Nat) : Int) := by rw [e]
  rw [Int.natCast_mul, Int.natCast_mul] at e2
  rw [e2, show ((B.natAbs : Nat) : Int) = B by omega]
/-- a twin with both signs changed -/
theorem twin {T B t b T' B' : Int} (h0 : b ≠ 0) (h1 : T * b = t * B) (h2 : T' * -b = -t * B') : T * B' = T' * B := by
  have h : (T * B') * b = (T' * B) * b := by
    rw [Int.mul_right_comm, h1, Int.mul_right_comm T' B b]
    have : T' * b = t * B' := by
      rw [Int.mul_neg, Int.neg_mul] at h2
      omega
    rw [this, Int.mul_right_comm]
  exact Int.eq_of_mul_eq_mul_right h0 h
theorem same_iff {T B T' B' t b t' b' : Int} (c1 : Int.gcd T B = 1) (c2 : Int.gcd T' B' = 1) (p1 : 0 < B) (p2 : 0 < B') (h0 : b ≠ 0) (h0' : b' ≠ 0) (h1 : T * b = t * B) (h2 : T' * b' = t' * B') : (t * b' = t' * b) ↔ (T = T' ∧ B = B') := by
  constructor
  · intro h
    refine share_eq c1 c2 p1 p2 ?_
    have e : (T * B') * (b * b') = (T' * B) * (b * b') := by
      have a1 : (T * B') * (b * b') = (T * b) * (B' * b') := by
        rw [Int.mul_assoc, Int.mul_assoc]
        congr 1
        rw [← Int.mul_assoc, ← Int.mul_assoc, Int.mul_comm B' b]
      have a2 : (T' * B) * (b * b') = (T' * b') * (B * b) := by
        rw [Int.mul_assoc, Int.mul_assoc]
        congr 1
        rw [Int.mul_comm b b', ← Int.mul_assoc, ← Int.mul_assoc, Int.mul_comm B b']
      rw [a1, a2, h1, h2]
      have a3 : t * B * (B' * b') = (t * b') * (B * B') := by
        rw [Int.mul_assoc, Int.mul_assoc]
        congr 1
        rw [← Int.mul_assoc, Int.mul_comm (B * B') b']
      have a4 : t' * B' * (B * b) = (t' * b) * (B * B') := by
        rw [Int.mul_assoc, Int.mul_assoc]
        congr 1
        rw [← Int.mul_assoc, Int.mul_comm (B' * B) b, Int.mul_comm B' B]
      rw [a3, a4, h]
    exact Int.eq_of_mul_eq_mul_right (Int.mul_ne_zero h0 h0') e
  · rintro ⟨rfl, rfl⟩
    have e : (t * b') * B = (t' * b) * B := by
      rw [Int.mul_right_comm, ← h1, Int.mul_right_comm t' b B, ← h2, Int.mul_right_comm]
    exact Int.eq_of_mul_eq_mul_right (by omega) e
theorem sum_he {T1 B1 T2 B2 a0 a1 b0 b1 : Int} (h1 : T1 * a1 = a0 * B1) (h2 : T2 * b1 = b0 * B2) : (T1 * B2 + T2 * B1) * (a1 * b1) = (a0 * b1 + b0 * a1) * (B1 * B2) := by grind
theorem dif_he {T1 B1 T2 B2 a0 a1 b0 b1 : Int} (h1 : T1 * a1 = a0 * B1) (h2 : T2 * b1 = b0 * B2) : (T1 * B2 - T2 * B1) * (a1 * b1) = (a0 * b1 - b0 * a1) * (B1 * B2) := by grind
theorem mul_he {T1 B1 T2 B2 a0 a1 b0 b1 : Int} (h1 : T1 * a1 = a0 * B1) (h2 : T2 * b1 = b0 * B2) : T1 * T2 * (a1 * b1) = a0 * b0 * (B1 * B2) := by grind
/-- a number of at most k bits -/
def Sz (k : Nat) (x : Int) : Prop := x.natAbs < 2 ^ k
theorem Sz.mono {a b : Nat} {x : Int} (h : Sz a x) (hk : a ≤ b) : Sz b x := Nat.lt_of_lt_of_le h (Nat.pow_le_pow_right (by decide) hk)
theorem Sz.le {k : Nat} {x y : Int} (hx : Sz k x) (h : y.natAbs ≤ x.natAbs) : Sz k y := Nat.lt_of_le_of_lt h hx
theorem Sz.neg {k : Nat} {x : Int} (hx : Sz k x) : Sz k (-x) := by unfold Sz at *; omega
theorem Sz.mul {a b : Nat} {x y : Int} (hx : Sz a x) (hy : Sz b y) : Sz (a + b) (x * y) := by
  unfold Sz at *
  rw [Int.natAbs_mul, Nat.pow_add]
  exact Nat.mul_lt_mul'' hx hy
theorem Sz.add {a : Nat} {x y : Int} (hx : Sz a x) (hy : Sz a y) : Sz (a + 1) (x + y) := by
  unfold Sz at *
  rw [Nat.pow_succ]
  omega
theorem Sz.sub {a : Nat} {x y : Int} (hx : Sz a x) (hy : Sz a y) : Sz (a + 1) (x - y) := by
  unfold Sz at *
  rw [Nat.pow_succ]
  omega
theorem Sz.one {k : Nat} (h : 1 ≤ k) : Sz k 1 := Sz.mono (a := 1) (by unfold Sz; decide) h
theorem Sz.pow {k : Nat} {x : Int} (h1 : 1 ≤ k) (hx : Sz k x) (n : Nat) : Sz (k * n + 1) (x ^ n) := by
  induction n with
  | zero => rw [Int.pow_zero]; exact Sz.one (by omega)
  | succ n ih =>
    rw [Int.pow_succ]
    exact (ih.mul hx).mono (by rw [Nat.mul_succ]; omega)
theorem pow_cop {T B : Int} (h : Int.gcd T B = 1) (n : Nat) : Int.gcd (T ^ n) (B ^ n) = 1 := by rw [Int.pow_gcd_pow, h, Nat.one_pow]
theorem fdiv_abs {x y : Int} (hy : y ≠ 0) : (x.fdiv y).natAbs ≤ x.natAbs := by
  have key : ∀ a b : Int, 0 < b → (a.fdiv b).natAbs ≤ a.natAbs := by
    intro a b hb
    rw [Int.fdiv_eq_ediv_of_nonneg a (by omega)]
    exact Int.natAbs_ediv_le_natAbs a b
  rcases Int.lt_or_lt_of_ne hy with h | h
  · have e := key (-x) (-y) (by omega)
    rw [Int.neg_fdiv_neg] at e
    omega
  · exact key x y h
theorem low_of {T B X Y : Int} (hc : Int.gcd T B = 1) (hB : 0 < B) (hY : Y ≠ 0) (h : T * Y = X * B) : T.natAbs ≤ X.natAbs ∧ B.natAbs ≤ Y.natAbs := by
  have d1 : B ∣ Y := dvd_cop (b := T) ⟨X, by rw [h, Int.mul_comm]⟩ (by rw [Int.gcd_comm]; exact hc)
  have d2 : T ∣ X := dvd_cop (b := B) ⟨Y, by rw [h, Int.mul_comm]⟩ hc
  constructor
  · by_cases hX : X = 0
    · subst hX
      rw [Int.zero_mul] at h
      rcases Int.mul_eq_zero.mp h with h | h
      · rw [h]; decide
      · exact absurd h hY
    · exact Nat.le_of_dvd (by omega) (Int.natAbs_dvd_natAbs.mpr d2)
  · exact Nat.le_of_dvd (by omega) (Int.natAbs_dvd_natAbs.mpr d1)
theorem fmod_mul (x : Int) {y : Int} (hy : y ≠ 0) : 0 ≤ x.fmod y * y := by
  rcases Int.lt_or_lt_of_ne hy with h | h
  · have e := fmod_neg x (-y)
    rw [Int.neg_neg] at e
    have h1 := Int.fmod_nonneg_of_pos (-x) (b := -y) (by omega)
    have h2 : 0 ≤ (-(x.fmod y)) * (-y) := Int.mul_nonneg (by omega) (by omega)
    rw [Int.neg_mul_neg] at h2
    exact h2
  · exact Int.mul_nonneg (Int.fmod_nonneg_of_pos x h) (by omega)
theorem floor_same {x y X Y : Int} (hy : y ≠ 0) (hY : 0 < Y) (h : x * Y = X * y) : x.fdiv y * Y ≤ X ∧ X < (x.fdiv y + 1) * Y := by
  have e1 := Int.mul_fdiv_add_fmod x y
  have e2 : y * (X - x.fdiv y * Y) = x.fmod y * Y := by grind
  have e3 : (x.fdiv y + 1) * Y = x.fdiv y * Y + Y := by grind
  have hl := fmod_lt (x := x) hy
  have hs := fmod_mul x hy
  generalize x.fmod y = r at *
  generalize hD : X - x.fdiv y * Y = D at *
  rw [e3]
  rcases Int.lt_or_lt_of_ne hy with g | g
  · have hr : r ≤ 0 := by
      rcases Int.lt_or_le 0 r with q | q
      · have := Int.mul_neg_of_pos_of_neg q g; omega
      · exact q
    have hrY : r * Y ≤ 0 := Int.mul_nonpos_of_nonpos_of_nonneg hr (by omega)
    have d0 : 0 ≤ D := by
      rcases Int.lt_or_le D 0 with q | q
      · have := Int.mul_pos_of_neg_of_neg g q; omega
      · exact q
    have d1 : D < Y := by
      rcases Int.lt_or_le D Y with q | q
      · exact q
      · have a1 := Int.mul_le_mul_of_nonpos_left (show y ≤ 0 by omega) q
        have a2 := Int.mul_lt_mul_of_pos_right (show y < r by omega) hY
        omega
    omega
  · have hr : 0 ≤ r := by
      rcases Int.lt_or_le r 0 with q | q
      · have := Int.mul_neg_of_neg_of_pos q g; omega
      · exact q
    have hrY : 0 ≤ r * Y := Int.mul_nonneg hr (by omega)
    have d0 : 0 ≤ D := by
      rcases Int.lt_or_le D 0 with q | q
      · have := Int.mul_neg_of_pos_of_neg g q; omega
      · exact q
    have d1 : D < Y := by
      rcases Int.lt_or_le D Y with q | q
      · exact q
      · have a1 := Int.mul_le_mul_of_nonneg_left q (show 0 ≤ y by omega)
        have a2 := Int.mul_lt_mul_of_pos_right (show r < y by omega) hY
        omega
    omega
theorem mod_sign {T B X b b' t' b0 b1 : Int} (hb : 0 < b) (hb' : 0 < b') (hB : 0 < B) (h1 : T * (b * b') = X * B) (h2 : t' * b1 = b0 * b') (hX : 0 ≤ X * (b * t')) : 0 ≤ T * b0 * b1 := by
  have e : T * b0 * b1 * (b' * (b * b') * b) = (X * (b * t')) * B * (b1 * b1) := by grind
  have p : 0 < b' * (b * b') * b := Int.mul_pos (Int.mul_pos hb' (Int.mul_pos hb hb')) hb
  have q : 0 ≤ (X * (b * t')) * B * (b1 * b1) := Int.mul_nonneg (Int.mul_nonneg hX (by omega)) (by
    rcases Int.lt_or_le b1 0 with z | z
    · exact Int.le_of_lt (Int.mul_pos_of_neg_of_neg z z)
    · exact Int.mul_nonneg z z)
  rcases Int.lt_or_le (T * b0 * b1) 0 with z | z
  · have := Int.mul_neg_of_neg_of_pos z p; omega
  · exact z
theorem mod_abs {T B X b b' t' b0 b1 : Int} (hb : 0 < b) (hb' : 0 < b') (hB : 0 < B) (h0 : b1 ≠ 0) (h1 : T * (b * b') = X * B) (h2 : t' * b1 = b0 * b') (hX : X.natAbs < (b * t').natAbs) : (T * b1).natAbs < (b0 * B).natAbs := by
  have e1 := congrArg Int.natAbs h1
  have e2 := congrArg Int.natAbs h2
  rw [Int.natAbs_mul, Int.natAbs_mul, Int.natAbs_mul] at e1
  rw [Int.natAbs_mul, Int.natAbs_mul] at e2
  rw [Int.natAbs_mul] at hX
  rw [Int.natAbs_mul, Int.natAbs_mul]
  have pb : 0 < b.natAbs := by omega
  have pb' : 0 < b'.natAbs := by omega
  have pB : 0 < B.natAbs := by omega
  have p1 : 0 < b1.natAbs := by omega
  generalize b.natAbs = b at *
  generalize b'.natAbs = c at *
  generalize B.natAbs = B at *
  generalize b1.natAbs = p at *
  generalize T.natAbs = T at *
  generalize X.natAbs = X at *
  generalize t'.natAbs = t at *
  generalize b0.natAbs = o at *
  have h3 : X * (B * p * c) < b * t * (B * p * c) := Nat.mul_lt_mul_of_pos_right hX (Nat.mul_pos (Nat.mul_pos pB p1) pb')
  have e3 : T * p * (b * c * c) = X * (B * p * c) := by grind
  have e4 : o * B * (b * c * c) = b * t * (B * p * c) := by grind
  exact Nat.lt_of_mul_lt_mul_right (a := b * c * c) (by omega)
theorem mod_he {t b t' b' q T2 B2 T B : Int} (hB2 : B2 ≠ 0) (hb : b ≠ 0) (h1 : T2 * (b' * 1) = t' * q * B2) (h2 : T * (b * B2) = (t * B2 - T2 * b) * B) : T * (b * b') = (t * b' - b * t' * q) * B := by
  refine cross (B1 := b * B2) (Int.mul_ne_zero hb hB2) h2 ?_
  grind
theorem rest_he {t b t' b' q a0 a1 b0 b1 : Int} (h1 : t * a1 = a0 * b) (h2 : t' * b1 = b0 * b') : (t * b' - b * t' * q) * (a1 * b1) = (a0 * b1 - q * b0 * a1) * (b * b') := by grind
theorem over_he {t b t' b' a0 a1 b0 b1 : Int} (h1 : t * a1 = a0 * b) (h2 : t' * b1 = b0 * b') : t * b' * (a1 * b0) = a0 * b1 * (b * t') := by grind
end GM

/-! GR: classes whose __init__ takes *args. -/
namespace GG
open PySem L2 PyProof.Rows
theorem cxUpN {P : Program} {w : World} : StX.CXUp (L2N.CX P w) := by
  rintro outer s H s2 H2 E e s' un kp ho ⟨a, B, H', cls, d, ea, fl, hok, ub, na, os, ag, he⟩
  refine ⟨a, B, H', cls, d, ea, fl, hok, ⟨fun b o q n hb => ub.keep b o (kp b o q) (un.free b o q n (by simp)) hb, fun b o q hb => ub.slot b o (kp b o q) hb, fun b o q n => ub.free b o (kp b o q) (un.free b o q n (by simp)),
    fun b o q hb => ub.there b o (kp b o q) hb, fun b xs q => ub.tups b xs (un.tups b xs q), fun b o xs q => ub.frzs b o xs (un.frzs b o xs q), fun b ps q => ?_⟩, na, os.trans ho, ag, he⟩
  obtain ⟨m1, e1⟩ := un.tbls b ps q
  obtain ⟨m2, e2⟩ := ub.tbls b _ e1
  exact ⟨m1 ++ m2, by rw [e2, Array.append_assoc]⟩
/-- the promise of a def with one parameter and *args, told of what is passed -/
def star1 (sp : Sp) : Sp := fun vs H Q E => ∃ ws rest, vs = ws ++ rest ∧ ws.length = 1 ∧ rest.length ≤ sizeLine ∧ ∀ p, H p = Option.none → sp (ws ++ [V.ref p]) (upd H p (.tup rest)) Q E
theorem Fun.okStar {P : Program} {w : World} {K : PySem.W.Frag} {mg : Str → Option Value} {base : Heap} {x qual : Str} {st : Stmt} {f : Addr} {fd : FuncData} {N : List Str} {p1 pv : Str} {k : Nat} {sp : Sp} (F : Fun K x qual st f fd) (S : FnScope N ([p1] ++ [pv]) (defScope st))
    (h0 : ∀ (kV doc pm : Value) (an : Option Addr) (cdv ct a : Value), bindArgs (PySem.W.fnOf x qual (defArgs st) (defBody st) (defScope st) .none kV doc pm an cdv ct) ⟨[a], []⟩ = (newTuple [] >>= fun t => pure [(p1, a), (pv, t)]))
    (h1 : ∀ (kV doc pm : Value) (an : Option Addr) (cdv ct a r : Value) (rs : List Value), bindArgs (PySem.W.fnOf x qual (defArgs st) (defBody st) (defScope st) .none kV doc pm an cdv ct) ⟨a :: r :: rs, []⟩ = (newTuple (r :: rs) >>= fun t => pure [(p1, a), (pv, t)]))
    (hbody : ∀ (cdv : Value) (A : Around) (outer : List Env) (s : Shared) (H : Hp) (vs : List V) (Q : VK) (E : XK), Room k (A.deeper (envOfC qual (defScope st) s.heap.objs.size f cdv)) → sp vs H Q E →
      ∃ t, PSs (cxOf (L2N.CX P w) P w K mg base N qual (defScope st) f cdv A outer s H E) (defBody st) t ∧ t { nx := fun _ H' => Q .non H', rt := Q } (start N vs) H) : FnR P w K mg base (L2N.CX P w) (k + 1) f (star1 sp) := by
  obtain ⟨oc, od, kV, doc, pm, an, cdv, ct, osl, rfl, lk, hcd⟩ := F.ex
  refine StX.fn_star (ps := [p1]) (pv := pv) lk hcd S cxUpN (fun us rest hl => ?_) fun A outer s H vs Q E hr hsp => hbody cdv A outer s H vs Q E hr hsp
  match us, hl with
  | [a], _ =>
    cases rest with
    | nil => exact h0 kV doc pm an cdv ct a
    | cons r rs => exact h1 kV doc pm an cdv ct a r rs
/-- the class x, at C, is made by its __init__ with *args -/
structure McR (P : Program) (w : World) (K : PySem.W.Frag) (mg : Str → Option Value) (base : Heap) (x : Str) (C : Addr) (k : Nat) (sp : Sp) : Prop where
  ex : ∃ f, FnR P w K mg base (L2N.CX P w) k f (star1 sp) ∧ Mk K C f ∧ mg x = some (.ref C)
def rMkR (C : Addr) (sp : Sp) (E : XK) (vs : List V) (H : Hp) (Q : VK) : Prop := ∀ x dx, H x = Option.none → H dx = Option.none → dx ≠ x →
  star1 sp (V.ref x :: vs) (upd (upd H dx (.own x)) x (.ins C dx [])) (fun v H2 => v = .non ∧ Q (.ref x) H2) E
def tMkR (C : Addr) (sp : Sp) (E : L2.St → XK) (t : TA) : TE := fun σ H Q => t σ H fun vs H1 => rMkR C sp (E σ) vs H1 Q
def rStar (K : PySem.W.Frag) (C : Addr) (sp : Sp) (E : XK) (y : V) (H : Hp) (Q : VK) : Prop := ∃ a xs, y = V.ref a ∧ (SqT K H a xs ∨ SqL K H a xs) ∧ rMkR C sp E xs H Q
def tMkRS (K : PySem.W.Frag) (C : Addr) (sp : Sp) (E : L2.St → XK) (te : TE) : TE := fun σ H Q => te σ H fun y H1 => rStar K C sp (E σ) y H1 Q
section
variable {X : Cx} {k : Nat} {C f : Addr} {sp : Sp} {E : L2.St → XK} {x : Str} {p pos p2 : Pos} {e : Expr} {es : List Expr} {te : TE} {t : TA}
theorem run_mkR {pins : List (Addr × Obj)} {σ : L2.St} {H : Hp} {s : Shared} {Q : VK} {us : List Value} {vs : List V} (M : Mk X.K C f) (F : FnR X.prog X.w X.K X.mg X.base (L2N.CX X.prog X.w) k f (star1 sp)) (hr : Room (k + 1) X.A) (hx : Ps X E) (I : L2.Inv X pins σ H s) (r : Vals vs us)
    (h : rMkR C sp (E σ) vs H Q) : wpAny (model X.prog X.w) X.A (call (.ref C) us) (EP X pins σ Q) X.xe s := by
  have hq := h (s.heap.objs.size + 1) s.heap.objs.size (I.hok.fresh (Nat.le_succ _)) (I.hok.fresh (Nat.le_refl _)) (Nat.ne_of_lt (Nat.lt_succ_self _))
  have I2 := Inv.made (C := C) I
  have r2 : Vals (V.ref (s.heap.objs.size + 1) :: vs) (Value.ref (s.heap.objs.size + 1) :: us) := .cons rfl r
  refine wpAny_call (make_map (f := f) I.kIn M.makes M.init (beq_iff_eq.mp M.fn) (codeAny_mono (F _ X.stack _ _ (Value.ref (s.heap.objs.size + 1) :: us) _ _ (E σ) (hr.make C us []) (I2.env0.make C us []) r2 hq) fun r s' hq' => ?_))
  cases r with
  | error e => exact hx σ pins _ _ e s' I2 hq'
  | ok fl =>
    cases fl with
    | ret u =>
      obtain ⟨v, H', I3, rv, ev, q3⟩ := I2.after hq'
      subst ev
      exact ⟨rv, ⟨V.ref (s.heap.objs.size + 1), H', I3, rfl, q3⟩⟩
    | next => exact False.elim hq'
    | brk => exact False.elim hq'
    | cont => exact False.elim hq'
/-- C(e, ..) -/
theorem pe_mkR (M : McR X.prog X.w X.K X.mg X.base x C k sp) (hr : Room (k + 1) X.A) (hx : Ps X E) (ha : PA X (e :: es) t) (hg : Gl X x := by rfl) (hdb : (x == ("__debug__" : Str)) = false := by decide)
    (he : starEach (e :: es) X.env = (false, eval e X.env) :: starEach es X.env := by rfl) (hpl : (backTo pos (starEach es X.env)).any (·.1) = false := by rfl) : PE X (.Call (.Name x p) (e :: es) [] pos) (tMkR C sp E t) := by
  obtain ⟨f, F, M, hm⟩ := M.ex
  refine ⟨fun pins s σ H Q I h => ?_⟩
  refine wpAny_Call_Name_kw (ld_glob I hg hm ?_ hdb)
  refine PySem.W.callWith_K (h₀ := X.base) I.ok.mod.kin M.kp (thn (ha.run pos pins s σ H _ I h) fun us s1 ⟨vs, H1, I1, r, q⟩ => ⟨I1.kIn, ?_⟩) he hpl
  exact run_mkR M F hr hx I1 r q
/-- C() -/
theorem pe_mkR0 (M : McR X.prog X.w X.K X.mg X.base x C k sp) (hr : Room (k + 1) X.A) (hx : Ps X E) (hg : Gl X x := by rfl) (hdb : (x == ("__debug__" : Str)) = false := by decide) : PE X (.Call (.Name x p) [] [] pos) (tMkR C sp E tNil) := by
  obtain ⟨f, F, M, hm⟩ := M.ex
  refine ⟨fun pins s σ H Q I h => ?_⟩
  refine wpAny_Call_Name_kw (ld_glob I hg hm ?_ hdb)
  exact PySem.W.callWith_K0 I.kIn M.kp (run_mkR (us := []) (vs := []) M F hr hx I .nil h)
/-- C(*e) -/
theorem pe_mkRS (M : McR X.prog X.w X.K X.mg X.base x C k sp) (hr : Room (k + 1) X.A) (hx : Ps X E) (he : PE X e te) (hg : Gl X x := by rfl) (hdb : (x == ("__debug__" : Str)) = false := by decide)
    (hst : starEach [.Starred e p2] X.env = [(true, eval e X.env)] := by rfl) : PE X (.Call (.Name x p) [.Starred e p2] [] pos) (tMkRS X.K C sp E te) := by
  obtain ⟨f, F, M, hm⟩ := M.ex
  refine ⟨fun pins s σ H Q I h => ?_⟩
  refine wpAny_Call_Name_kw (ld_glob I hg hm ?_ hdb)
  refine PySem.W.callWith_S (h₀ := X.base) I.ok.mod.kin M.kp (thn (he.run pins s σ H _ I h) fun v s1 ⟨y, H1, I1, ry, a, xs, ey, hxs, q⟩ => ?_) hst
  subst ey
  obtain rfl : v = Value.ref a := ry
  exact StX.star_any I1 hxs fun us s2 I2 rv => ⟨I2.kIn, run_mkR M F hr hx I2 rv q⟩
end
section
variable {K : PySem.W.Frag} {σ : L2.St} {H : Hp} {te : TE} {as : TA} {Q : VK} {E : L2.St → XK} {sp : Sp} {C a : Addr} {xs : List V}
instance i_mkR : St1 (tMkR C sp E as σ H Q) (as σ H fun vs H1 => rMkR C sp (E σ) vs H1 Q) := ⟨fun h => h⟩
instance i_mkRS : St1 (tMkRS K C sp E te σ H Q) (te σ H fun y H1 => rStar K C sp (E σ) y H1 Q) := ⟨fun h => h⟩
theorem v_starL {E : XK} (ha : H a = some (.lst xs)) (q : rMkR C sp E xs H Q) : rStar K C sp E (.ref a) H Q := ⟨a, xs, rfl, .inr (SqL.of ha), q⟩
end
end GG

/-! GZ: list(zip(a, b)) of two tuples. -/
namespace GG
open PySem PySem.Spec L2 PyProof.Rows
open PySem.Sem (wp)
section
variable {prog : Program} {w : World} {A : Around} {E : Value → Shared → Prop} {s : Shared} {z TI TO T i1 i2 l1 l2 : Addr} {f : Bool} {oT : Obj} {k1 k2 : Nat} {xs ys : Array Value}
theorem zheld_item {x y : Value} {Q : Value → Shared → Prop} (D : ZipApart z TI TO i1 i2 l1 l2) (hz : IsZipHeld s.heap z TI TO T f) (hT : s.heap.get? T = some oT) (hTI : IsPair s.heap TI (.ref i1) (.ref i2)) (h1 : s.heap.IsTupleIter i1 l1 k1) (h2 : s.heap.IsTupleIter i2 l2 k2)
    (hl1 : s.heap.IsTuple l1 xs) (hl2 : s.heap.IsTuple l2 ys) (hx : xs[k1]? = some x) (hy : ys[k2]? = some y)
    (hQ : ∀ h', IsZipHeld h' z TI TO T true → h'.IsTupleIter i1 l1 (k1 + 1) → h'.IsTupleIter i2 l2 (k2 + 1) → IsPair h' s.heap.objs.size x y → (∀ c o, c ≠ z → c ≠ i1 → c ≠ i2 → s.heap.get? c = some o → h'.get? c = some o) → Q (.ref s.heap.objs.size) { s with heap := h' }) :
    wpAny (model prog w) A (Builtin.«zip.__next__» ⟨[.ref z], []⟩) (fun fin s' => ∃ v, fin = .done (.ret v) ∧ Q v s') E s := by
  refine wpAny_bind (m := field (.ref z) 2) (wpAny_field hz rfl (x := .bool false) rfl (wpAny_bind (m := field (.ref z) 3) (wpAny_field hz rfl (x := .ref TI) rfl (wpAny_bind (wpAny_seqItems hTI rfl ?_)))))
  refine wpAny_bind (m := Builtin.SmallTypes.ownedTupleIsFree (.ref z)) (wpAny_tupleHeld_zip hz hT fun ha hza sa => ?_)
  rw [if_neg Bool.false_ne_true]
  refine wpAny_bind ?_
  rw [← Array.forIn_toList]; simp only [List.forIn_cons, List.forIn_nil]
  refine wpAny_bind (wpAny_bind (wpAny_holding (wpAny_bind (m := Builtin.SmallTypes.nextOf (.ref i1)) (RZ.nextOf_tuple_item (s := { s with heap := ha }) (h1.extBut sa.extBut D.i1z) (hl1.extBut sa.extBut D.l1z) hx fun hb i1b sb => wpAny_pure (wpAny_pure ?_)))))
  refine wpAny_bind (wpAny_bind (wpAny_holding (wpAny_bind (m := Builtin.SmallTypes.nextOf (.ref i2)) (RZ.nextOf_tuple_item (s := { s with heap := hb }) ((h2.extBut sa.extBut D.i2z).extBut sb.extBut D.i12.symm) ((hl2.extBut sa.extBut D.l2z).extBut sb.extBut D.l2i1) hy fun hd i2d sd => wpAny_pure (wpAny_pure (wpAny_pure ?_))))))
  refine wpAny_bind (m := newTuple [x, y]) (wpAny_newTuple (wpAny_pure ⟨_, rfl, ?_⟩))
  have sz : hd.objs.size = s.heap.objs.size := by rw [sd.1, sb.1, sa.1]
  have new : IsPair (hd.push { cls := .type "tuple", data := .seq #[x, y] }) hd.objs.size x y := Heap.get?_push_size _ rfl
  show Q (.ref hd.objs.size) _
  rw [sz] at new ⊢
  exact hQ _ (Heap.get?_push_of_some _ (sd.extBut _ _ D.i2z.symm (sb.extBut _ _ D.i1z.symm hza))) ((i1b.extBut sd.extBut D.i12).at fun o e => Heap.get?_push_of_some _ e) (i2d.at fun o e => Heap.get?_push_of_some _ e) new
    fun c o n1 n2 n3 e => Heap.get?_push_of_some _ (sd.extBut _ _ n3 (sb.extBut _ _ n2 (sa.extBut _ _ n1 e)))
theorem zheld_end {Q : Fin → Shared → Prop} (hh : A.handled = none) (D : ZipApart z TI TO i1 i2 l1 l2) (hz : IsZipHeld s.heap z TI TO T f) (hT : s.heap.get? T = some oT) (hTI : IsPair s.heap TI (.ref i1) (.ref i2)) (h1 : s.heap.IsTupleIter i1 l1 k1) (hl1 : s.heap.IsTuple l1 xs) (hx : xs[k1]? = none)
    (hE : ∀ h' e, (∀ c o, c ≠ z → c ≠ i1 → s.heap.get? c = some o → h'.get? c = some o) → (∃ o, h'.get? e = some o ∧ o.cls = .type "StopIteration") → E (.ref e) { s with heap := h' }) :
    wpAny (model prog w) A (Builtin.«zip.__next__» ⟨[.ref z], []⟩) Q E s := by
  refine wpAny_bind (m := field (.ref z) 2) (wpAny_field hz rfl (x := .bool false) rfl (wpAny_bind (m := field (.ref z) 3) (wpAny_field hz rfl (x := .ref TI) rfl (wpAny_bind (wpAny_seqItems hTI rfl ?_)))))
  refine wpAny_bind (m := Builtin.SmallTypes.ownedTupleIsFree (.ref z)) (wpAny_tupleHeld_zip hz hT fun ha hza sa => ?_)
  rw [if_neg Bool.false_ne_true]
  refine wpAny_bind ?_
  rw [← Array.forIn_toList, List.forIn_cons]
  refine wpAny_bind (wpAny_bind (wpAny_holding (wpAny_bind (m := Builtin.SmallTypes.nextOf (.ref i1)) (RZ.nextOf_tuple_end (s := { s with heap := ha }) hh (h1.extBut sa.extBut D.i1z) (hl1.extBut sa.extBut D.l1z) hx fun hb e sb he => ?_))))
  exact hE hb e (fun c o n1 n2 q => sb _ _ n2 (sa.extBut _ _ n1 q)) he
/-- the zip stands at turn k: it has given out nothing yet, or what it gave is still there -/
def ZAt (h : Heap) (q z TI TO i1 i2 l1 l2 : Addr) (k : Nat) : Prop :=
  ((IsZip h z TI TO .none ∧ ∃ x y, IsPair h TO x y) ∨ ∃ T f oT, IsZipHeld h z TI TO T f ∧ h.get? T = some oT ∧ T ≠ z ∧ T ≠ i1 ∧ T ≠ i2 ∧ T ≠ q) ∧ IsPair h TI (.ref i1) (.ref i2) ∧ h.IsTupleIter i1 l1 k ∧ h.IsTupleIter i2 l2 k
theorem ZAt.keep {h h' : Heap} {k : Nat} {q : Addr} (Z : ZAt h q z TI TO i1 i2 l1 l2 k) (n : q ∉ [z, TI, TO, i1, i2]) (e : ∀ c o, c ≠ q → h.get? c = some o → h'.get? c = some o) : ZAt h' q z TI TO i1 i2 l1 l2 k := by
  obtain ⟨a, b, c, d⟩ := Z
  have m : ∀ c ∈ [z, TI, TO, i1, i2], c ≠ q := fun c hc r => n (r ▸ hc)
  refine ⟨?_, e _ _ (m _ (by simp)) b, c.at (fun o r => e _ _ (m _ (by simp)) r), d.at (fun o r => e _ _ (m _ (by simp)) r)⟩
  rcases a with ⟨a, x, y, p⟩ | ⟨T, f, oT, a, p, r⟩
  · exact .inl ⟨e _ _ (m _ (by simp)) a, x, y, e _ _ (m _ (by simp)) p⟩
  · exact .inr ⟨T, f, oT, e _ _ (m _ (by simp)) a, e _ _ r.2.2.2 p, r⟩
theorem ZAt.upd {h : Heap} {k : Nat} {q : Addr} {f : Obj → Obj} (Z : ZAt h q z TI TO i1 i2 l1 l2 k) (n : q ∉ [z, TI, TO, i1, i2]) : ZAt (h.update q f) q z TI TO i1 i2 l1 l2 k := Z.keep n fun c o m r => ((Heap.SameBut.update ..).2 c m).trans r
theorem znext_item {k : Nat} {q : Addr} {x y : Value} {Q : Option Value → Shared → Prop} (hq : q < s.heap.objs.size) (D : ZipApart z TI TO i1 i2 l1 l2) (Z : ZAt s.heap q z TI TO i1 i2 l1 l2 k) (hl1 : s.heap.IsTuple l1 xs) (hl2 : s.heap.IsTuple l2 ys) (hx : xs[k]? = some x) (hy : ys[k]? = some y)
    (hQ : ∀ h', ZAt h' q z TI TO i1 i2 l1 l2 (k + 1) → IsPair h' s.heap.objs.size x y → (∀ c o, c ∉ [z, TI, TO, i1, i2] → s.heap.get? c = some o → h'.get? c = some o) → Q (some (.ref s.heap.objs.size)) { s with heap := h' }) :
    wpAny (model prog w) A (pyNext (.ref z)) Q E s := by
  obtain ⟨a, hTI, h1, h2⟩ := Z
  obtain ⟨o1, e1, _⟩ := id h1
  obtain ⟨o2, e2, _⟩ := id h2
  have g1 : s.heap.objs.size ≠ i1 := Nat.ne_of_gt (Heap.lt_size e1)
  have g2 : s.heap.objs.size ≠ i2 := Nat.ne_of_gt (Heap.lt_size e2)
  rcases a with ⟨hz, u, v, hTO⟩ | ⟨T, f, oT, hz, hT, n1, n2, n3, n4⟩
  · have g0 : s.heap.objs.size ≠ z := Nat.ne_of_gt (Heap.lt_size hz)
    refine RZ.pyNext_zipT_item D hz hTI hTO h1 h2 hl1 hl2 hx hy fun h' z' TO' a1 a2 p sz k' => ?_
    exact hQ h' ⟨.inr ⟨_, false, _, z', p, g0, g1, g2, Nat.ne_of_gt hq⟩, k' _ _ D.TIz D.TITO D.TIi1 D.TIi2 hTI, a1, a2⟩ p fun c o n q => k' c o (fun e => n (by simp [e])) (fun e => n (by simp [e])) (fun e => n (by simp [e])) (fun e => n (by simp [e])) q
  · have g0 : s.heap.objs.size ≠ z := Nat.ne_of_gt (Heap.lt_size hz)
    have ty : s.TypeIs (.ref z) "zip" := ⟨_, hz, rfl⟩
    unfold pyNext
    refine wpAny_bind (wpAny_attempt (wpAny_callSpecial?_slot (name := Str.ofString "__next__") ty F.slot_zip_next (wpAny_call_entry F.slot_zip_next ty F.entry_zip_next (zheld_item D hz hT hTI h1 h2 hl1 hl2 hx hy fun h' z' a1 a2 p k' => wpAny_pure ?_) (F.args_zip_next_1 _))))
    exact hQ h' ⟨.inr ⟨T, true, oT, z', k' T _ n1 n2 n3 hT, n1, n2, n3, n4⟩, k' _ _ D.TIz D.TIi1 D.TIi2 hTI, a1, a2⟩ p fun c o n q => k' c o (fun e => n (by simp [e])) (fun e => n (by simp [e])) (fun e => n (by simp [e])) q
theorem znext_end {k : Nat} {q : Addr} {Q : Option Value → Shared → Prop} (hh : A.handled = none) (D : ZipApart z TI TO i1 i2 l1 l2) (Z : ZAt s.heap q z TI TO i1 i2 l1 l2 k) (hl1 : s.heap.IsTuple l1 xs) (hl2 : s.heap.IsTuple l2 ys) (hx : xs[k]? = none)
    (hQ : ∀ h', (∀ c o, c ∉ [z, TI, TO, i1, i2] → s.heap.get? c = some o → h'.get? c = some o) → Q none { s with heap := h' }) : wpAny (model prog w) A (pyNext (.ref z)) Q E s := by
  obtain ⟨a, hTI, h1, h2⟩ := Z
  rcases a with ⟨hz, u, v, hTO⟩ | ⟨T, f, oT, hz, hT, n1, n2, n3, n4⟩
  · exact RZ.pyNext_zipT_end hh D hz hTI hTO h1 h2 hl1 hl2 (.inl hx) fun h' k' => hQ h' fun c o n q => k' c o (fun e => n (by simp [e])) (fun e => n (by simp [e])) (fun e => n (by simp [e])) (fun e => n (by simp [e])) q
  · have ty : s.TypeIs (.ref z) "zip" := ⟨_, hz, rfl⟩
    unfold pyNext
    refine wpAny_bind (wpAny_attempt (wpAny_callSpecial?_slot (name := Str.ofString "__next__") ty F.slot_zip_next (wpAny_call_entry F.slot_zip_next ty F.entry_zip_next (zheld_end hh D hz hT hTI h1 hl1 hx fun h' e k' he => ?_) (F.args_zip_next_1 _))))
    obtain ⟨o, ho, hc⟩ := he
    exact wpAny_bind (wpAny_isInstance (T := "StopIteration") (b := true) ⟨o, ho, hc⟩ isSubtype_stop (wpAny_pure (hQ _ fun c o n q => k' c o (fun e => n (by simp [e])) (fun e => n (by simp [e])) q)))
end
/-- no length is told of a zip -/
theorem zip_hint {M : Model} {A : Around} {E : Value → Shared → Prop} {Q : Bool → Shared → Prop} {s : Shared} {z : Addr} (hz : s.TypeIs (.ref z) "zip") (h : Q true s) : wpAny M A (Builtin.List.listLengthHint (.ref z)) Q E s := by
  have n1 : typeLookup (.type "zip") "__len__" = pure none := am_miss_of_fast (by decide +kernel)
  have n2 : typeLookup (.type "zip") "__length_hint__" = pure none := am_miss_of_fast (by decide +kernel)
  unfold Builtin.List.listLengthHint
  refine wpAny_bind (wpAny_bind (wpAny_typeOf hz ?_))
  rw [n1]
  refine wpAny_pure ?_
  refine PySem.W.KFB.if_not rfl (PySem.W.KFB.if_not rfl ?_)
  refine wpAny_bind (wpAny_bind (wpAny_typeOf hz ?_))
  rw [n2]
  exact wpAny_pure (wpAny_pure h)
theorem Ext.sqT {K : PySem.W.Frag} {H H' : Hp} {a : Addr} {xs : List V} (e : Ext H H') (h : SqT K H a xs) : SqT K H' a xs := by
  rcases h with h | h
  · rcases h with h | ⟨o, h⟩
    · exact .inl (.inl (e _ _ h))
    · exact .inl (.inr ⟨o, e _ _ h⟩)
  · exact .inr h
section
variable {X : Cx} {pins : List (Addr × Obj)} {σ : L2.St} {A1 : Around} {z TI TO i1 i2 a b q : Addr} {xs ys : List V} {Rs : Result → Shared → Prop}
theorem zip_loop (hc : A1.in1.handled = none) (D : ZipApart z TI TO i1 i2 a b) (hlen : xs.length = ys.length) (hsz : xs.length < sizeLine) {H0 : Hp} (hq0 : H0 q = none) (ha0 : SqT X.K H0 a xs) (hb0 : SqT X.K H0 b ys) (hqz : q ∉ [z, TI, TO, i1, i2])
    (hdone : ∀ ts H s, Inv X pins σ H s → Ext H0 H → H q = some (.lst (ts.map V.ref)) → Paired (fun t (p : V × V) => H t = some (.tup [p.1, p.2])) ts (xs.zip ys) → Rs (.ok (.ret .none)) s) :
    ∀ (m i : Nat) (ts : List Addr) (H : Hp) (s : Shared), m + i = xs.length → Inv X pins σ H s → ZAt s.heap q z TI TO i1 i2 a b i → (∀ c ∈ [z, TI, TO, i1, i2], FpOk X pins H c) → Ext H0 H → (∀ c ∈ [z, TI, TO, i1, i2], c < s.heap.objs.size) → H q = some (.lst (ts.map V.ref)) → ts.length = i → 
      Paired (fun t (p : V × V) => H t = some (.tup [p.1, p.2])) ts ((xs.zip ys).take i) → codeAny (model X.prog X.w) A1 (.builtin "list.extend.loop" ⟨[.ref q, .ref z, .none], []⟩) Rs s := by
  intro m
  induction m with
  | zero =>
    intro i ts H s hm I Z fp e low hq hl pr
    have ha := e.sqT ha0
    have hb := e.sqT hb0
    refine codeAny_builtin PySem.F.entry_extend_loop ?_
    rw [Around.under_plainId PySem.F.plain_extend_loop _]
    obtain ⟨its, rv, p, _⟩ := I.tuple ha
    obtain ⟨its2, rv2, p2, _⟩ := I.tuple hb
    have l1 := rv.length
    refine wpAny_bind (m := pyNext (.ref z)) (znext_end hc D Z p p2 (by simp; omega) fun h' k => ?_)
    refine wpAny_pure (hdone ts H _ (I.turnedL (t' := s.toks) (fun c o n q => k c o n q) fp) e hq ?_)
    rwa [List.take_of_length_le (by rw [List.length_zip]; omega)] at pr
  | succ m ih =>
    intro i ts H s hm I Z fp e low hq hl pr
    have ha := e.sqT ha0
    have hb := e.sqT hb0
    refine codeAny_builtin PySem.F.entry_extend_loop ?_
    rw [Around.under_plainId PySem.F.plain_extend_loop _]
    obtain ⟨its, rv, p, _⟩ := I.tuple ha
    obtain ⟨its2, rv2, p2, _⟩ := I.tuple hb
    have hx : xs[i]? = some (xs[i]'(by omega)) := List.getElem?_eq_getElem (by omega)
    have hy : ys[i]? = some (ys[i]'(by omega)) := List.getElem?_eq_getElem (by omega)
    obtain ⟨u, hu, ru⟩ := rv.get hx
    obtain ⟨u2, hu2, ru2⟩ := rv2.get hy
    have hlt : q < s.heap.objs.size := by
      obtain ⟨_, _, _, _, _, e0⟩ := I.lstM hq
      exact Heap.lt_size e0
    refine wpAny_bind (m := pyNext (.ref z)) (znext_item hlt D Z p p2 (by simpa using hu) (by simpa using hu2) fun h' Z' pT k => ?_)
    have fresh : H s.heap.objs.size = none := I.hok.fresh (Nat.le_refl _)
    have new : ObjOk X.prog X.w (upd H s.heap.objs.size (.tup [xs[i]'(by omega), ys[i]'(by omega)])) h' s.heap.objs.size (.tup [xs[i]'(by omega), ys[i]'(by omega)]) :=
      ⟨by show 2 ≤ sizeLine; decide, [u, u2], .cons ru (.cons ru2 .nil), ⟨_, pT, rfl, _, rfl⟩⟩
    have I1 : Inv X pins σ (upd H s.heap.objs.size (.tup [xs[i]'(by omega), ys[i]'(by omega)])) { s with heap := h' } := I.turnedNew (t' := s.toks) (ch := [z, TI, TO, i1, i2]) k fp (Nat.le_refl _) new
    have qn : q ≠ s.heap.objs.size := ne_of_none hq fresh
    have e1 : Ext H (upd H s.heap.objs.size (.tup [xs[i]'(by omega), ys[i]'(by omega)])) := fun b o r => by rw [upd_ne (ne_of_none r fresh)]; exact r
    have hq1 := e1 q _ hq
    obtain ⟨z', its', k', r2, hl2, e2⟩ := I1.lstM hq1
    have ll := r2.length
    rw [List.length_map] at ll
    refine wpAny_bind (m := updateSeq q (·.push (.ref s.heap.objs.size))) (wpAny_updateSeq e2 rfl (wpAny_pure ⟨plainId_quiet PySem.F.plain_extend_loop _, ?_⟩) (by rw [List.size_toArray]; omega) (by show (its'.toArray.push _).size ≤ sizeLine + 1; rw [Array.size_push, List.size_toArray]; omega))
    have I2 := I1.lset (f := (·.push (.ref s.heap.objs.size))) (its' := its' ++ [.ref s.heap.objs.size]) (ys := (ts ++ [s.heap.objs.size]).map V.ref) (t' := s.toks) hq1 e2 (by simp) (by rw [List.map_append]; exact r2.append (.cons rfl .nil)) (by rw [List.length_map, List.length_append, List.length_singleton]; omega)
    refine ih (i + 1) (ts ++ [s.heap.objs.size]) _ _ (by omega) I2 (Z'.keep hqz fun c o n r => ((Heap.SameBut.update ..).2 c n).trans r) (fun c hc => ?_) ?_ (fun c hc => ?_) upd_same (by simp [hl]) ?_
    · have f0 := fp c hc
      have n1 : c ≠ q := fun r => hqz (by rw [← r]; exact hc)
      exact ⟨by rw [upd_ne n1, upd_ne (Nat.ne_of_lt (low c hc))]; exact f0.1, f0.2⟩
    · intro c o r
      rw [upd_ne (ne_of_none r hq0)]
      exact e1 _ _ (e c o r)
    · show c < (h'.update q _).objs.size
      rw [(Heap.SameBut.update ..).1]
      exact Nat.lt_trans (low c hc) (Heap.lt_size pT)
    · have hz : (xs.zip ys)[i]? = some (xs[i]'(by omega), ys[i]'(by omega)) := by rw [List.getElem?_eq_getElem (by rw [List.length_zip]; omega)]; simp
      have old : Paired (fun t (p : V × V) => upd (upd H s.heap.objs.size (.tup [xs[i]'(by omega), ys[i]'(by omega)])) q (.lst ((ts ++ [s.heap.objs.size]).map V.ref)) t = some (.tup [p.1, p.2])) ts ((xs.zip ys).take i) := by
        refine pr.mono fun t p r => ?_
        rw [upd_ne (ne_of r hq fun z => nomatch z)]
        exact e1 _ _ r
      rw [List.take_add_one, hz]
      exact old.snoc (by rw [upd_ne (Ne.symm qn), upd_same])
end
/-- list(zip(a, b)) of two tuples of one length -/
def rZipL (K : PySem.W.Frag) (vs : List V) (H : Hp) (Q : VK) : Prop := ∃ a b xs ys, vs = [.ref a, .ref b] ∧ SqT K H a xs ∧ SqT K H b ys ∧ xs.length = ys.length ∧ xs.length < sizeLine ∧
  ∀ q ts H', H q = none → Ext H H' → H' q = some (.lst (ts.map V.ref)) → Paired (fun t (p : V × V) => H' t = some (.tup [p.1, p.2])) ts (xs.zip ys) → Q (.ref q) H'
def tZipL (K : PySem.W.Frag) (t : TA) : TE := fun σ H Q => t σ H fun vs H1 => rZipL K vs H1 Q
section
variable {X : Cx} {e e2 : Expr} {ta : TA} {p pos p2 pos2 : Pos}
theorem pe_zipL (hc : X.calm = true) (hg : Gl X "list") (hm : X.mg "list" = none) (hg2 : Gl X "zip") (hm2 : X.mg "zip" = none) (ha : PA X [e, e2] ta)
    (hs2 : starEach [e, e2] X.env = (false, eval e X.env) :: starEach [e2] X.env := by rfl) (hpl2 : (backTo pos2 (starEach [e2] X.env)).any (·.1) = false := by rfl)
    (hs : starEach [.Call (.Name "zip" p2) [e, e2] [] pos2] X.env = (false, eval (.Call (.Name "zip" p2) [e, e2] [] pos2) X.env) :: starEach [] X.env := by rfl) :
    PE X (.Call (.Name "list" p) [.Call (.Name "zip" p2) [e, e2] [] pos2] [] pos) (tZipL X.K ta) := by
  refine ⟨fun pins s σ H Q I h => ?_⟩
  refine wpAny_Call_Name_kw (ld_blt I hg hm PyProof.Rows.boot_list ?_)
  refine PyProof.Rows.callWith_type1 ?_ hs rfl
  rw [hs]
  show wpAny _ _ (spliced ((false, eval (.Call (.Name "zip" p2) [e, e2] [] pos2) X.env) :: backTo pos (starEach [] X.env))) _ _ s
  refine Calls.spliced_cons ?_
  refine Call_ (ld_blt I hg2 hm2 PyProof.Rows.boot_zip (PyProof.Rows.callWith_type1 (thn (ha.run pos2 pins s σ H _ I h) fun us s1 ⟨vs, H1, I1, r1, q1⟩ => ?_) hs2 hpl2))
  obtain ⟨a, b, xs, ys, ex, ha1, hb1, hlen, hsz, kk⟩ := q1
  subst ex
  obtain ⟨u, u2, rfl, ru, ru2⟩ := r1.two
  cases ru
  cases ru2
  obtain ⟨its, rv, p1, _⟩ := I1.tuple ha1
  obtain ⟨its2, rv2, p2', _⟩ := I1.tuple hb1
  obtain ⟨o1, ho1, _⟩ := id p1
  obtain ⟨o2, ho2, _⟩ := id p2'
  refine RZ.call_zipT (show s1.heap.IsTuple a its.toArray from p1) (show s1.heap.IsTuple b its2.toArray from p2') fun h' hz hTI hTO h1 h2 hsz' hk => ?_
  refine Calls.spliced_nil ?_
  have D := PySem.W.ktu_apart s1.heap.objs.size a b (Heap.lt_size ho1) (Heap.lt_size ho2)
  have I2 : Inv X pins σ H1 { s1 with heap := h' } := I1.kept (t' := s1.toks) hk
  have in5 : ∀ c, c ∈ [s1.heap.objs.size + 4, s1.heap.objs.size + 2, s1.heap.objs.size + 3, s1.heap.objs.size, s1.heap.objs.size + 1] → s1.heap.objs.size ≤ c ∧ c < s1.heap.objs.size + 5 := fun c hcm => by
    simp only [List.mem_cons, List.mem_nil_iff, or_false] at hcm
    rcases hcm with r | r | r | r | r <;> subst r <;> exact ⟨by first | exact Nat.le_refl _ | exact Nat.le_add_right _ _, by first | exact Nat.lt_add_of_pos_right (by decide) | exact Nat.add_lt_add_left (by decide) _⟩
  have ty : ∀ s' : Shared, IsZip s'.heap (s1.heap.objs.size + 4) (s1.heap.objs.size + 2) (s1.heap.objs.size + 3) .none → s'.TypeIs (.ref (s1.heap.objs.size + 4)) "zip" := fun s' r => ⟨_, r, rfl⟩
  have fr : H1 h'.objs.size = none := I2.hok.fresh (Nat.le_refl _)
  refine callType_codes (Q₁ := fun obj s₁ => obj = .ref h'.objs.size ∧ s₁ = { s1 with heap := h'.push { cls := .type "list", data := .seq #[] } }) PySem.F.called_list (PySem.F.typeCall_list_1 _) PySem.F.entry_list_init (code_list_new _ ⟨rfl, rfl⟩) fun obj s₁ h₁ => ?_
  obtain ⟨rfl, rfl⟩ := h₁
  have hS : (h'.push { cls := .type "list", data := .seq #[] }).get? h'.objs.size = some { cls := .type "list", data := .seq #[] } := Heap.get?_push_size _ rfl
  refine ⟨⟨_, hS, rfl⟩, PySem.F.args_list_init_2 _ _, ?_⟩
  have I3 : Inv X pins σ (upd H1 h'.objs.size (.lst [])) { s1 with heap := h'.push { cls := .type "list", data := .seq #[] } } := I2.lnew (its := []) (t' := s1.toks) .nil (Nat.zero_le _)
  refine wpAny_bind (m := Builtin.List.listItems (.ref h'.objs.size)) ?_
  unfold Builtin.List.listItems
  refine wpAny_bind (wpAny_seqItems hS rfl (wpAny_pure ?_))
  refine wpAny_bind (m := updateSeq h'.objs.size (fun _ => #[])) (wpAny_updateSeq hS rfl ?_)
  have I4 := I3.lset (f := fun _ => #[]) (its := []) (its' := []) (ys := []) (t' := s1.toks) upd_same hS rfl .nil (Nat.zero_le _)
  rw [upd_upd] at I4
  refine wpAny_bind (m := letGo (#[] : Array Value).toList.reverse) (wpAny_letGo ?_)
  have keep : ∀ c o, c ≠ h'.objs.size → h'.get? c = some o → ((h'.push { cls := .type "list", data := .seq #[] }).update h'.objs.size (Obj.mapSeq fun _ => #[])).get? c = some o := fun c o n r => ((Heap.SameBut.update ..).2 c n).trans (Heap.get?_push_of_some _ r)
  have low5 : ∀ c, c ∈ [s1.heap.objs.size + 4, s1.heap.objs.size + 2, s1.heap.objs.size + 3, s1.heap.objs.size, s1.heap.objs.size + 1] → c < h'.objs.size := fun c hcm => by rw [hsz']; exact (in5 c hcm).2
  have ne5 : ∀ c, c ∈ [s1.heap.objs.size + 4, s1.heap.objs.size + 2, s1.heap.objs.size + 3, s1.heap.objs.size, s1.heap.objs.size + 1] → c ≠ h'.objs.size := fun c hcm => Nat.ne_of_lt (low5 c hcm)
  have Z0 : ZAt ((h'.push { cls := .type "list", data := .seq #[] }).update h'.objs.size (Obj.mapSeq fun _ => #[])) h'.objs.size (s1.heap.objs.size + 4) (s1.heap.objs.size + 2) (s1.heap.objs.size + 3) s1.heap.objs.size (s1.heap.objs.size + 1) a b 0 :=
    ⟨.inl ⟨keep _ _ (ne5 _ (by simp)) hz, _, _, keep _ _ (ne5 _ (by simp)) hTO⟩, keep _ _ (ne5 _ (by simp)) hTI, h1.at fun o r => keep _ _ (ne5 _ (by simp)) r, h2.at fun o r => keep _ _ (ne5 _ (by simp)) r⟩
  unfold Builtin.List.listExtendWith
  have zt := ty { s1 with heap := (h'.push { cls := .type "list", data := .seq #[] }).update h'.objs.size (Obj.mapSeq fun _ => #[]) } (keep _ _ (ne5 _ (by simp)) hz)
  refine wpAny_bind (wpAny_typeOf zt ?_)
  have q1 : Builtin.List.listSameRef (.ref h'.objs.size) (.ref (s1.heap.objs.size + 4)) = false := by simp [Builtin.List.listSameRef, Ne.symm (ne5 (s1.heap.objs.size + 4) (by simp))]
  have q2 : (Value.type "zip" == Value.type "list") = false := rfl
  have q3 : (Value.type "zip" == Value.type "tuple") = false := rfl
  simp only [q1, q2, q3, Bool.or_false, Bool.false_eq_true, if_false]
  refine wpAny_bind (wpAny_pyIter_zip (keep _ _ (ne5 _ (by simp)) hz) ?_)
  refine wpAny_bind (wpAny_holding (zip_hint zt ?_))
  rw [Bool.true_or, if_pos rfl]
  obtain ⟨w4, its4, k4, r4, l4, e4⟩ := I4.lstM upd_same
  cases r4
  refine wpAny_bind (wpAny_rule (wpAny_bind ?_))
  refine wpAny_bind (m := updateSeq h'.objs.size (·.push .none)) (wpAny_updateSeq e4 rfl ?_)
  have I5 := I4.lset (f := (·.push Value.none)) (its' := [Value.none]) (ys := [.non]) (t' := s1.toks) upd_same e4 (by simp) (.cons rfl .nil) (by rw [List.length_singleton, sizeLine_eq]; decide)
  obtain ⟨w5, its5, k5, r5, l5, e5⟩ := I5.lstM upd_same
  obtain ⟨u5, rfl, ru5⟩ := r5.one
  refine wpAny_updateSeq e5 rfl (wpAny_pure ⟨plainId_quiet PySem.F.plain_extend_loop _, ?_⟩) (by show 1 ≤ sizeLine; rw [sizeLine_eq]; decide) (Nat.zero_le _)
  have I6 := I5.lset (f := (·.pop)) (its := [u5]) (its' := []) (ys := []) (t' := s1.toks) upd_same e5 (by rfl) .nil (Nat.zero_le _)
  rw [upd_upd, upd_upd] at I6
  have nq : h'.objs.size ∉ [s1.heap.objs.size + 4, s1.heap.objs.size + 2, s1.heap.objs.size + 3, s1.heap.objs.size, s1.heap.objs.size + 1] := fun r => Nat.lt_irrefl _ (low5 _ r)
  refine zip_loop (A1 := X.A.in1) (Rs := wants (fun r s₂ => r = .none ∧ EP X pins σ Q (.ref h'.objs.size) s₂) X.xe) (I2.ok.hd hc) D hlen hsz fr ha1 hb1 nq (fun ts H s' I' e' hq' pr => ⟨rfl, .ref h'.objs.size, H, I', rfl, kk _ ts H fr e' hq' pr⟩) xs.length 0 [] _ _ (Nat.add_zero _) I6 ((Z0.upd nq).upd nq) (fun c hcm => ?_) ?_ (fun c hcm => ?_) upd_same rfl .nil
  · have f0 := I1.fpOk (H' := H1) (in5 c hcm).1 (I1.hok.fresh (in5 c hcm).1)
    exact ⟨by rw [upd_ne (ne5 c hcm)]; exact f0.1, f0.2⟩
  · intro c o r
    rw [upd_ne (ne_of_none r fr)]
    exact r
  · refine Nat.lt_of_lt_of_le (low5 c hcm) ?_
    show _ ≤ (Heap.update _ _ _).objs.size
    rw [(Heap.SameBut.update ..).1, (Heap.SameBut.update ..).1, (Heap.SameBut.update ..).1, Heap.size_push]
    exact Nat.le_succ _
end
section
variable {K : PySem.W.Frag} {σ : L2.St} {H : Hp} {as : TA} {Q : VK} {a b : Addr} {xs ys : List V}
instance i_zipL : St1 (tZipL K as σ H Q) (as σ H fun vs H1 => rZipL K vs H1 Q) := ⟨fun h => h⟩
theorem v_zipL (ha : H a = some (.tup xs)) (hb : H b = some (.tup ys)) (hl : xs.length = ys.length) (hs : xs.length < sizeLine) (k : ∀ q ts H', H q = none → Ext H H' → H' q = some (.lst (ts.map V.ref)) → Paired (fun t (p : V × V) => H' t = some (.tup [p.1, p.2])) ts (xs.zip ys) → Q (.ref q) H') : rZipL K [.ref a, .ref b] H Q :=
  ⟨a, b, xs, ys, rfl, .inl (.inl ha), .inl (.inl hb), hl, hs, k⟩
end
end GG

/-! GI: list(o), o an own instance whose __iter__ gives a tuple's iterator; iter(tuple). -/
namespace GG
open PySem PySem.Spec L2 PyProof.Rows
/-- the tuple at l, walked to place i by the iterator at it -/
def TIt (l it : Addr) (i : Nat) : HO := .ext fun h => h.IsTupleIter it l i
/-- an object of no further use -/
def Junk (it : Addr) : HO := .ext fun h => ∃ o, h.get? it = some o
theorem tit_ok {P : Program} {w : World} {H : Hp} {h : Heap} {l it : Addr} {i : Nat} (e : h.IsTupleIter it l i) : ObjOk P w H h it (TIt l it i) := ⟨e, (let ⟨o, ho, _⟩ := e; ⟨o, ho⟩), fun h1 h2 q k => q.at k⟩
theorem junk_ok {P : Program} {w : World} {H : Hp} {h : Heap} {it : Addr} (e : ∃ o, h.get? it = some o) : ObjOk P w H h it (Junk it) := ⟨e, e, fun h1 h2 q k => let ⟨o, ho⟩ := q; ⟨o, k o ho⟩⟩
section
variable {prog : Program} {w : World} {A : Around} {E : Value → Shared → Prop} {s : Shared} {it l : Addr} {i : Nat} {xs : Array Value}
theorem iter_tup {Q : Value → Shared → Prop} (hl : s.heap.IsTuple l xs) (h : ∀ h', h'.IsTupleIter s.heap.objs.size l 0 → (∀ b o, s.heap.get? b = some o → h'.get? b = some o) → Q (.ref s.heap.objs.size) { s with heap := h' }) : wpAny (model prog w) A (call (.builtin "iter") [.ref l]) Q E s := by
  refine Calls.call_function_entry (by decide +kernel) (by decide +kernel) PySem.W.kdk_entry_iter (PySem.W.kdk_args_iter _) ?_
  unfold Builtin.«iter»
  refine wpAny_bind (m := someArgs "iter" 1 2 _) (wpAny_of_eq (a := [Value.ref l]) (by first | rfl | kernel_rfl!) (wpAny_bind (m := pyIter (.ref l)) (wpAny_pyIter_tuple hl (wpAny_pure ⟨_, rfl, h _ ⟨_, Heap.get?_push_size _ rfl, rfl, rfl⟩ fun b o e => Heap.get?_push_of_some _ e⟩))))
theorem tnext_end {Q : Option Value → Shared → Prop} (hh : A.handled = none) (hit : s.heap.IsTupleIter it l i) (hl : s.heap.IsTuple l xs) (hx : xs[i]? = none)
    (k : ∀ h', Heap.ExtBut it s.heap h' → (∃ o, h'.get? it = some o) → Q none { s with heap := h' }) : wpAny (model prog w) A (pyNext (.ref it)) Q E s := by
  obtain ⟨ob, gb, cb, db⟩ := id hit
  obtain ⟨ot, gt, _, nt, dt⟩ := hl
  unfold pyNext
  refine wpAny_bind (wpAny_attempt (wpAny_callSpecial?_slot (name := Str.ofString "__next__") hit.typeIs F.slot_tuple_iterator_next (wpAny_call_entry F.slot_tuple_iterator_next hit.typeIs F.entry_tuple_iterator_next ?_ (F.args_tuple_iterator_next_1 _))))
  refine wpAny_bind (m := field (.ref it) 0) (wpAny_field gb db (x := .ref l) rfl ?_)
  have nn : ¬ ((Value.ref l == Value.none) = true) := Bool.false_ne_true
  show wpAny _ _ (if (Value.ref l == Value.none) = true then _ else _) _ _ s
  rw [if_neg nn]
  refine wpAny_bind (m := field (.ref it) 1) (wpAny_field gb db (x := .int i 0) rfl (wpAny_bind (m := seqItems? (.ref l)) (wpAny_seqItems gt dt ?_)))
  simp only [Int.toNat_natCast, hx]
  refine wpAny_bind (wpAny_rule (wpAny_bind (wpAny_setField gb db (by simp) (wpAny_bind (m := newExc (.type "StopIteration") []) ?_))))
  simp only [newExc, newTuple]
  refine wpAny_bind (wpAny_newObj_type (wpAny_bind (m := firstArgMember _ _) (wpAny_of_eq (a := Value.none) (by first | rfl | (simp only [firstArgMember]; rfl)) (wpAny_newObj_type ?_ (by size_fits)))) (by size_fits))
  simp only [raiseNew]
  refine wpAny_bind (wpAny_handled ?_)
  first | rw [show A.in1.handled = none from hh] | rw [hh]
  refine wpAny_bind (wpAny_pure (wpAny_throw ?_))
  refine wpAny_bind (wpAny_isInstance (T := "StopIteration") (b := true) ⟨_, Heap.get?_push_size _ rfl, rfl⟩ isSubtype_stop (wpAny_pure (k _ (((Heap.SameBut.update ..).extBut.push _).push _) ?_)))
  exact ⟨_, Heap.get?_push_of_some _ (Heap.get?_push_of_some _ (Heap.get?_update_self _ gb (Obj.isFreed_of_fields (Obj.data_mapFields db _))))⟩
end
/-- iter(t), t a tuple -/
def rIterT (K : PySem.W.Frag) : List V → Hp → VK → Prop := fun xs H Q => ∃ (l : Addr) (zs : List V), xs = [.ref l] ∧ SqT K H l zs ∧ ∀ it, H it = none → Q (.ref it) (upd H it (TIt l it 0))
theorem c_iter {X : Cx} (K : PySem.W.Frag) (hK : X.K = K := by rfl) : CallR X (.builtin "iter") (rIterT K) := by
  subst hK
  intro pins s σ H xs us Q I r h
  obtain ⟨l, zs, rfl, hq, q⟩ := h
  obtain ⟨u, rfl, ru⟩ := vals1 r
  cases ru
  obtain ⟨its, rv, pl, hz⟩ := I.tuple hq
  refine iter_tup pl fun h' e k => ?_
  exact ⟨.ref s.heap.objs.size, _, I.laid (t' := s.toks) k (Nat.le_refl _) (tit_ok e), rfl, q _ (I.hok.fresh (Nat.le_refl _))⟩
section
variable {X : Cx} {pins : List (Addr × Obj)} {σ : L2.St} {A1 : Around} {it u q : Addr} {zs : List V} {Rs : Result → Shared → Prop}
theorem tit_get {H : Hp} {s : Shared} {i : Nat} (I : L2.Inv X pins σ H s) (e : H it = some (TIt u it i)) : s.heap.IsTupleIter it u i := (I.hok it _ e).1
theorem tit_loop (hc : A1.in1.handled = none) (hsz : zs.length < sizeLine) {H0 : Hp}
    (hdone : ∀ H s, L2.Inv X pins σ H s → (∀ b o, b ≠ q → b ≠ it → H0 b = some o → H b = some o) → H q = some (.lst zs) → Rs (.ok (.ret .none)) s) :
    ∀ (m i : Nat) (H : Hp) (s : Shared), m + i = zs.length → L2.Inv X pins σ H s → H it = some (TIt u it i) → SqT X.K H u zs → H q = some (.lst (zs.take i)) → (∀ b o, b ≠ q → b ≠ it → H0 b = some o → H b = some o) →
      codeAny (model X.prog X.w) A1 (.builtin "list.extend.loop" ⟨[.ref q, .ref it, .none], []⟩) Rs s := by
  intro m
  induction m with
  | zero =>
    intro i H s hm I hi hu hq e
    refine codeAny_builtin PySem.F.entry_extend_loop ?_
    rw [Around.under_plainId PySem.F.plain_extend_loop _]
    obtain ⟨its, rv, p, _⟩ := I.tuple hu
    have l1 := rv.length
    refine wpAny_bind (m := pyNext (.ref it)) (tnext_end hc (tit_get I hi) p (by simp; omega) fun h' k ex => ?_)
    have mu : Mut (H it) := by rw [hi]; exact True.intro
    have I2 := I.write (x := it) (e := it) (o := Junk it) (t' := s.toks) mu (.inl rfl) (fun b o nb z => k b o nb z) ex (junk_ok ex)
    have nq : q ≠ it := ne_of hq hi (fun z => nomatch z)
    refine wpAny_pure (hdone _ _ I2 (fun b o n1 n2 z => by rw [upd_ne n2]; exact e b o n1 n2 z) ?_)
    rw [upd_ne nq, hq, List.take_of_length_le (by omega)]
  | succ m ih =>
    intro i H s hm I hi hu hq e
    refine codeAny_builtin PySem.F.entry_extend_loop ?_
    rw [Around.under_plainId PySem.F.plain_extend_loop _]
    obtain ⟨its, rv, p, _⟩ := I.tuple hu
    have hx : zs[i]? = some (zs[i]'(by omega)) := List.getElem?_eq_getElem (by omega)
    obtain ⟨w1, hw, rw1⟩ := rv.get hx
    have mu : Mut (H it) := by rw [hi]; exact True.intro
    have nq : q ≠ it := ne_of hq hi (fun z => nomatch z)
    refine wpAny_bind (m := pyNext (.ref it)) (wpAny_pyNext_tuple_item (tit_get I hi) p (by simpa using hw) fun h' e' sb => ?_)
    have ex : ∃ o, h'.get? it = some o := let ⟨o, ho, _⟩ := e'; ⟨o, ho⟩
    have I1 := I.write (x := it) (e := it) (o := TIt u it (i + 1)) (t' := s.toks) mu (.inl rfl) (fun b o nb z => (sb.2 b nb).trans z) ex (tit_ok e')
    have hq1 : upd H it (TIt u it (i + 1)) q = some (.lst (zs.take i)) := by rw [upd_ne nq]; exact hq
    obtain ⟨z', its', k', r2, hl2, e2⟩ := I1.lstM hq1
    have ll := r2.length
    rw [List.length_take] at ll
    refine wpAny_bind (m := updateSeq q (·.push w1)) (wpAny_updateSeq e2 rfl (wpAny_pure ⟨plainId_quiet PySem.F.plain_extend_loop _, ?_⟩) (by rw [List.size_toArray]; omega) (by show (its'.toArray.push _).size ≤ sizeLine + 1; rw [Array.size_push, List.size_toArray]; omega))
    have I2 := I1.lset (f := (·.push w1)) (its' := its' ++ [w1]) (ys := zs.take (i + 1)) (t' := s.toks) hq1 e2 (by simp) (by rw [List.take_add_one, hx]; exact r2.append (.cons rw1 .nil)) (by rw [List.length_take]; omega)
    refine ih (i + 1) _ _ (by omega) I2 (by rw [upd_ne (Ne.symm nq), upd_same]) ?_ upd_same fun b o n1 n2 z => by rw [upd_ne n1, upd_ne n2]; exact e b o n1 n2 z
    have n1 : ∀ (o : HO) (a : Addr), (∀ ys, o = .tup ys ∨ (∃ v, o = .frz v (.tup ys)) → H a = some o → (upd (upd H it (TIt u it (i + 1))) q (.lst (zs.take (i + 1)))) a = some o) := fun o a ys ho ha => by
      rcases ho with rfl | ⟨v, rfl⟩
      · rw [upd_ne (ne_of ha hq fun z => nomatch z), upd_ne (ne_of ha hi fun z => nomatch z)]; exact ha
      · rw [upd_ne (ne_of ha hq fun z => nomatch z), upd_ne (ne_of ha hi fun z => nomatch z)]; exact ha
    rcases hu with h | h
    · rcases h with h | ⟨o, h⟩
      · exact .inl (.inl (n1 _ _ zs (.inl rfl) h))
      · exact .inl (.inr ⟨o, n1 _ _ zs (.inr ⟨o, rfl⟩) h⟩)
    · exact .inr h
end
/-! ### list(o) -/
section
variable {X : Cx} {k : Nat} {f : Addr} {fd : FuncData} {ps : List Str} {sp : Sp}
/-- a callee that lets nothing out -/
theorem run_quiet {A : Around} {pins : List (Addr × Obj)} {σ : L2.St} {H : Hp} {s : Shared} {Q : VK} {us : List Value} {vs : List V} {xe : Value → Shared → Prop} (F : FnOk X.prog X.w X.K X.mg X.base (L2N.CX X.prog X.w) k f fd ps sp) (hr : Room k A) (fr : A.frames = X.A.frames) (hb : L2.Binds X.K fd ps [])
    (I : L2.Inv X pins σ H s) (r : Vals vs us) (h : sp vs H Q E0) : wpAny (model X.prog X.w) A (call (.ref f) us) (EP X pins σ Q) xe s := by
  have e0 : Env0 X.prog X.w X.K X.mg X.base A X.stack s H := by
    have e := I.env0
    exact ⟨by rw [fr]; exact e.frames, e.mod, e.bs, e.bsz, e.funs, e.frf, e.hok, e.bare⟩
  have hl : (us ++ []).length = ps.length := by rw [List.append_nil, ← r.length]; exact F.len _ _ _ _ h
  refine wpAny_call (codeAny_mono (F.run A X.stack s H ⟨us, []⟩ us vs Q E0 hr e0 (by have z := hb s us I.kIn hl; rw [List.append_nil] at z; exact z) r h) fun r s' hq => ?_)
  cases r with
  | error e =>
    obtain ⟨_, _, _, _, _, _, _, _, _, _, _, _, z⟩ := hq
    exact z.elim
  | ok fl =>
    cases fl with
    | ret u => exact I.after hq
    | next => exact False.elim hq
    | brk => exact False.elim hq
    | cont => exact False.elim hq
end
/-- what is wanted of __len__ -/
def LenP (R : Hp → Prop) : VK := fun v H' => ∃ n : Int, v = .int n ∧ 0 ≤ n ∧ n < 2 ^ 63 ∧ ∃ m : Int, V.int n = .int m ∧ m ≤ 1000 ∧ R H'
def rLsOwn (K : PySem.W.Frag) (C : Addr) (spI spL : Sp) : List V → Hp → VK → Prop := fun xs H Q => ∃ a dx fs, xs = [.ref a] ∧ H a = some (.ins C dx fs) ∧ ∀ q, H q = none → spI [.ref a] (upd H q (.lst [])) (fun v H2 => ∃ it u zs dy gs, v = .ref it ∧ H2 it = some (TIt u it 0) ∧ H2 a = some (.ins C dy gs) ∧
  spL [.ref a] H2 (LenP fun H3 => H3 it = some (TIt u it 0) ∧ SqT K H3 u zs ∧ zs.length ≤ 1000 ∧ H3 q = some (.lst []) ∧ ∀ H4, (∀ b o, b ≠ q → b ≠ it → H3 b = some o → H4 b = some o) → H4 q = some (.lst zs) → Q (.ref q) H4) E0) E0
section
variable {X : Cx} {C : Addr} {k1 k2 : Nat} {ps1 ps2 : List Str} {spI spL : Sp}
theorem own_len_at {A : Around} {pins : List (Addr × Obj)} {σ : L2.St} {H : Hp} {s : Shared} {Q : VK} {a dx : Addr} {fs : List (Str × V)} {xe : Value → Shared → Prop} (S : Sm X.prog X.w X.K X.mg X.base C "__len__" k2 ps2 spL) (hr : Room (k2 + 1) A) (fr : A.frames = X.A.frames) (I : L2.Inv X pins σ H s) (ha : H a = some (.ins C dx fs))
    (q : spL [.ref a] H (fun v H' => ∃ n : Int, v = .int n ∧ 0 ≤ n ∧ n < 2 ^ 63 ∧ Q (.int n) H') E0) : wpAny (model X.prog X.w) A (call (.builtin "len") [.ref a]) (EP X pins σ Q) xe s := by
  obtain ⟨f, fd, F, hs, hf, hb⟩ := S.ex
  obtain ⟨_, _, J⟩ := inst_of I ha
  obtain ⟨m, hF⟩ := I.fr
  refine PySem.W.len_K hF I.ok.mod.kin J hs hf ?_
  refine thn (run_quiet (vs := [.ref a]) F hr.in1 fr hb I (.cons rfl .nil) q) fun r s' z => ?_
  obtain ⟨v, H', I', rv, n, rfl, h0, h1, q'⟩ := z
  obtain ⟨t, rfl⟩ := (show ∃ t, r = Value.int n t from rv)
  exact ⟨⟨h0, h1⟩, .int n, H', I'.tok _, ⟨_, rfl⟩, q'⟩
theorem own_hintL {A : Around} {pins : List (Addr × Obj)} {σ : L2.St} {H : Hp} {s : Shared} {R : Hp → Prop} {a dx : Addr} {fs : List (Str × V)} {QB : Bool → Shared → Prop} {xe : Value → Shared → Prop} (S : Sm X.prog X.w X.K X.mg X.base C "__len__" k2 ps2 spL) (hr : Room (k2 + 1) A) (fr : A.frames = X.A.frames) (I : L2.Inv X pins σ H s) (ha : H a = some (.ins C dx fs))
    (q : spL [.ref a] H (LenP R) E0) (k : ∀ b H' s', L2.Inv X pins σ H' s' → R H' → QB b s') : wpAny (model X.prog X.w) A (Builtin.List.listLengthHint (.ref a)) QB xe s := by
  obtain ⟨f, fd, F, hs, hf, hb⟩ := id S.ex
  obtain ⟨_, _, J⟩ := inst_of I ha
  unfold Builtin.List.listLengthHint
  refine wpAny_bind (wpAny_bind (J.type.here ((PySem.W.looks_findIn I.kIn hs).here ?_)))
  refine PySem.W.KFB.if_not rfl ?_
  show wpAny _ _ (rule "list.length-hint.len" >>= _) _ _ _
  refine wpAny_bind (wpAny_rule ?_)
  refine wpAny_bind (wpAny_attempt (thn (own_len_at (Q := fun v H' => ∃ n : Int, v = .int n ∧ n ≤ 1000 ∧ R H') S hr fr I ha q) fun v s' z => ?_))
  · obtain ⟨x, H', I', rx, n, rfl, hn, hR⟩ := z
    obtain ⟨t, rfl⟩ := (show ∃ t, v = Value.int n t from rx)
    dsimp only
    refine wpAny_bind (m := asInt? (.int n t)) (wpAny_pure ?_)
    dsimp only
    have h0 : Builtin.List.listTooLong n.toNat = false := by
      unfold Builtin.List.listTooLong
      simp only [decide_eq_false_iff_not, sizeLine_eq]
      omega
    rw [if_neg (by rw [h0]; exact Bool.false_ne_true)]
    exact wpAny_pure (k _ H' _ I' hR)
theorem c_lsOwn (K : PySem.W.Frag) (SI : Sm X.prog X.w X.K X.mg X.base C "__iter__" k1 ps1 spI) (SL : Sm X.prog X.w X.K X.mg X.base C "__len__" k2 ps2 spL) (hr1 : Room (k1 + 2) X.A) (hr2 : Room (k2 + 3) X.A) (hc : X.calm = true) (hK : X.K = K := by rfl) : CallR X (.type "list") (rLsOwn K C spI spL) := by
  subst hK
  intro pins s σ H xs us Q I rv h
  obtain ⟨a, dx, fs, rfl, ha, hq⟩ := h
  obtain ⟨u, rfl, ru⟩ := rv.one
  cases ru
  obtain ⟨fi, fdi, FI, hsi, hfi, hbi⟩ := SI.ex
  refine callType_codes (Q₁ := fun obj s₁ => obj = .ref s.heap.objs.size ∧ s₁ = { s with heap := s.heap.push { cls := .type "list", data := .seq #[] } }) PySem.F.called_list (PySem.F.typeCall_list_1 _) PySem.F.entry_list_init (code_list_new _ ⟨rfl, rfl⟩) fun obj s₁ h₁ => ?_
  obtain ⟨rfl, rfl⟩ := h₁
  have hS : (s.heap.push { cls := .type "list", data := .seq #[] }).get? s.heap.objs.size = some { cls := .type "list", data := .seq #[] } := Heap.get?_push_size _ rfl
  refine ⟨⟨_, hS, rfl⟩, PySem.F.args_list_init_2 _ _, ?_⟩
  have fr : H s.heap.objs.size = none := I.hok.fresh (Nat.le_refl _)
  have hI := hq _ fr
  generalize hqq : s.heap.objs.size = q at *
  have I1 : L2.Inv X pins σ (upd H q (.lst [])) { s with heap := s.heap.push { cls := .type "list", data := .seq #[] } } := by
    subst hqq
    exact I.lnew (its := []) (t' := s.toks) .nil (Nat.zero_le _)
  refine wpAny_bind (m := Builtin.List.listItems (.ref q)) ?_
  unfold Builtin.List.listItems
  refine wpAny_bind (wpAny_seqItems hS rfl (wpAny_pure ?_))
  refine wpAny_bind (m := updateSeq q (fun _ => #[])) (wpAny_updateSeq hS rfl ?_)
  have I2 := I1.lset (f := fun _ => #[]) (its := []) (its' := []) (ys := []) (t' := s.toks) upd_same hS rfl .nil (Nat.zero_le _)
  rw [upd_upd] at I2
  refine wpAny_bind (m := letGo (#[] : Array Value).toList.reverse) (wpAny_letGo ?_)
  have ha2 : upd H q (.lst []) a = some (.ins C dx fs) := by rw [upd_ne (ne_of_none ha fr)]; exact ha
  have hne : q ≠ a := Ne.symm (ne_of_none ha fr)
  obtain ⟨_, _, J⟩ := inst_of I2 ha2
  obtain ⟨m0, hF⟩ := I2.fr
  unfold Builtin.List.listExtendWith
  refine wpAny_bind (J.type.here ?_)
  have h1 : Builtin.List.listSameRef (.ref q) (.ref a) = false := by simp [Builtin.List.listSameRef, hne]
  have h2 : (Value.ref C == Value.type "list") = false := rfl
  have h3 : (Value.ref C == Value.type "tuple") = false := rfl
  simp only [h1, h2, h3, Bool.or_false, Bool.false_eq_true, if_false]
  refine wpAny_bind (PySem.W.owit_iter hF I.ok.mod.kin J hsi hfi ?_)
  refine thn (run_quiet (vs := [.ref a]) FI hr1.in1.in1 rfl hbi I2 (.cons rfl .nil) hI) fun v s' z => ?_
  obtain ⟨x, H2, I3, rx, it, u, zs, dy, gs, rfl, hit, ha3, hL⟩ := z
  cases rx
  have hT := (tit_get I3 hit).typeIs
  unfold PySem.W.OwitIt
  refine wpAny_specialOf (name := Str.ofString "__next__") hT F.slot_tuple_iterator_next.lookup ?_
  dsimp only
  refine wpAny_bind (wpAny_holding (own_hintL SL hr2.in1.in1 rfl I3 ha3 hL fun b H3 s3 I4 hR => ?_))
  obtain ⟨hit3, hu3, hz3, hq3, kk⟩ := hR
  have fin : ∀ (s4 : Shared), L2.Inv X pins σ H3 s4 → codeAny (model X.prog X.w) X.A.in1 (.builtin "list.extend.loop" ⟨[.ref q, .ref it, .none], []⟩) (wants (fun r s₂ => r = .none ∧ EP X pins σ Q (.ref q) s₂) X.xe) s4 := fun s4 I5 =>
    tit_loop (A1 := X.A.in1) (Rs := wants (fun r s₂ => r = .none ∧ EP X pins σ Q (.ref q) s₂) X.xe) (I5.ok.hd hc) (by have := sizeLine_eq; omega) (H0 := H3) (fun H4 s5 I6 e6 q6 => ⟨rfl, .ref q, H4, I6, rfl, kk H4 e6 q6⟩) zs.length 0 H3 s4 (Nat.add_zero _) I5 hit3 hu3 hq3 fun b o _ _ z => z
  refine wpAny_ite_split (fun _ => ?_) (fun _ => wpAny_pure ⟨plainId_quiet PySem.F.plain_extend_loop _, fin _ I4⟩)
  obtain ⟨w4, its4, k4, r4, l4, e4⟩ := I4.lstM hq3
  cases r4
  refine wpAny_bind (wpAny_rule (wpAny_bind ?_))
  refine wpAny_bind (m := updateSeq q (·.push .none)) (wpAny_updateSeq e4 rfl ?_)
  have I5 := I4.lset (f := (·.push Value.none)) (its' := [Value.none]) (ys := [.non]) (t' := s3.toks) hq3 e4 (by simp) (.cons rfl .nil) (by rw [List.length_singleton, sizeLine_eq]; decide)
  obtain ⟨w5, its5, k5, r5, l5, e5⟩ := I5.lstM upd_same
  obtain ⟨u5, rfl, ru5⟩ := r5.one
  refine wpAny_updateSeq e5 rfl (wpAny_pure ⟨plainId_quiet PySem.F.plain_extend_loop _, fin _ ?_⟩) (by show 1 ≤ sizeLine; rw [sizeLine_eq]; decide) (Nat.zero_le _)
  have I6 := I5.lset (f := (·.pop)) (its := [u5]) (its' := []) (ys := []) (t' := s3.toks) upd_same e5 (by rfl) .nil (Nat.zero_le _)
  rw [upd_upd] at I6
  have hH : upd H3 q (.lst []) = H3 := by
    funext b
    by_cases hb : b = q
    · rw [hb, upd_same, hq3]
    · rw [upd_ne hb]
  rw [hH] at I6
  exact I6
end
section
variable {K : PySem.W.Frag} {H : Hp} {Q : VK} {C a u dx : Addr} {fs : List (Str × V)} {zs : List V} {spI spL : Sp}
theorem v_lsOwn (ha : H a = some (.ins C dx fs)) (hu : H u = some (.tup zs)) (hz : zs.length ≤ 1000)
    (hI : ∀ H1 Q', Ext H H1 → (∀ it H2, H1 it = none → Ext H1 H2 → H2 it = some (TIt u it 0) → Q' (.ref it) H2) → spI [.ref a] H1 Q' E0)
    (hL : ∀ H1 Q', Ext H H1 → Q' (.int zs.length) H1 → spL [.ref a] H1 Q' E0) (k : ∀ q H', H q = none → Ext H H' → H' q = some (.lst zs) → Q (.ref q) H') : rLsOwn K C spI spL [.ref a] H Q := by
  refine ⟨a, dx, fs, rfl, ha, fun q nq => hI _ _ (Ext.new nq) fun it H2 nit e2 hit => ?_⟩
  have e02 : Ext H H2 := (Ext.new nq).trans e2
  have hq2 := e2.look (upd_same (H := H) (a := q) (o := .lst []))
  have nit0 : H it = none := (Ext.new nq).free nit
  refine ⟨it, u, zs, dx, fs, rfl, hit, e02.look ha, hL H2 _ e02 ⟨zs.length, rfl, by omega, by omega, zs.length, rfl, by omega, hit, .inl (.inl (e02.look hu)), hz, hq2, fun H4 e4 q4 => ?_⟩⟩
  exact k q H4 nq (fun b o z => e4 b o (ne_of_none z nq) (ne_of_none z nit0) (e02 b o z)) q4
theorem v_iterT (hu : H u = some (.tup zs)) (k : ∀ it H', H it = none → Ext H H' → H' it = some (TIt u it 0) → Q (.ref it) H') : rIterT K [.ref u] H Q := ⟨u, zs, rfl, .inl (.inl hu), fun it nit => k it _ nit (Ext.new nit) upd_same⟩
end
end GG

/-! GY: own __getitem__, conversions, slices, == of data, comprehensions by a walk, isinstance with a tuple of classes. -/
namespace GG
open PySem L2 PyProof.Rows
/-! ### x[i] by the text's own __getitem__ -/
def rGet (C : Addr) (sp : Sp) (E : L2.St → XK) : R2S := fun σ x y H Q => ∃ a dx fs, x = .ref a ∧ H a = some (.ins C dx fs) ∧ sp [.ref a, y] H Q (E σ)
def Gets (K : PySem.W.Frag) (C : Addr) : Prop := ∃ f, PySem.W.findIn K (.ref C) "__getitem__" = some (some (.ref f)) ∧ PySem.W.fnIn K f = true
section
variable {X : Cx} {k : Nat} {C : Addr} {ps : List Str} {sp : Sp} {E : L2.St → XK} {a b : Expr} {ta tb : TE} {pos : Pos}
theorem pe_ixOwn (S : Sm X.prog X.w X.K X.mg X.base C "__getitem__" k ps sp) (hg : Gets X.K C) (hr : Room (k + 1) X.A) (hx : Ps X E) (ha : PE X a ta) (hb : PE X b tb)
    (hsl : ∀ x i, subscripted b true (.ref x) i = runValue (.builtin "lifetime.subscript" ⟨[.ref x, i], []⟩) := by intro _ _; with_unfolding_all rfl) : PE X (.Subscript a b pos) (tOpS (rGet C sp E) ta tb) := by
  obtain ⟨f, fd, F, hs, hf, hbd⟩ := S.ex
  obtain ⟨f', hs', hg⟩ := hg
  have ef : f' = f := by
    rw [hs] at hs'
    injection hs' with h
    injection h with h
    injection h with h
    exact h.symm
  subst ef
  refine ⟨fun pins s σ H Q I h => ?_⟩
  refine Subscript_ (binT ha hb I h fun v u s2 x y H2 I2 rx ry q => ?_)
  obtain ⟨o, dx, fs, rfl, ho, q⟩ := q
  cases rx
  obtain ⟨_, _, J⟩ := inst_of I2 ho
  obtain ⟨m, hF⟩ := I2.fr
  exact PySem.W.sub_K hF I2.ok.mod.kin J hs hg hf (run_at0 (vs := [.ref o, y]) F hr.in1 rfl hbd (hx σ) I2 (.cons rfl (.cons ry .nil)) q) (hsl _ _)
end
/-! ### conversions, sums, slices -/
def cList (K : PySem.W.Frag) : List V → Hp → VK → Prop := fun xs H Q => ∃ p ys, xs = [.ref p] ∧ (SqL K H p ys ∨ SqT K H p ys) ∧ ∀ l, H l = none → Q (.ref l) (upd H l (.lst ys))
def cTuple (K : PySem.W.Frag) : List V → Hp → VK → Prop := fun xs H Q => ∃ p ys, xs = [.ref p] ∧ ((SqL K H p ys ∧ ∀ l, H l = none → Q (.ref l) (upd H l (.tup ys))) ∨ (SqT K H p ys ∧ Q (.ref p) H))
def uSl (K : PySem.W.Frag) : V → Option Int → Option Int → Hp → VK → Prop := fun x lo hi H Q => rSlL K x lo hi H Q ∨ (rSlA K x lo hi H Q ∨ rSlS x lo hi H Q)
section
variable {X : Cx} (K : PySem.W.Frag)
theorem c_list (hK : X.K = K := by rfl) : CallR X (.type "list") (cList K) := by subst hK; exact call_list_of
theorem c_tuple (hK : X.K = K := by rfl) : CallR X (.type "tuple") (cTuple K) := by subst hK; exact call_tuple_of
theorem c_sum (hc : X.calm = true) (hK : X.K = K := by rfl) : CallR X (.builtin "sum") (rSum K) := by subst hK; exact cr_sum hc
theorem c_any (hc : X.calm = true) (hK : X.K = K := by rfl) : CallR X (.builtin "any") (rAny K) := by subst hK; exact cr_any hc
theorem c_all (hc : X.calm = true) (hK : X.K = K := by rfl) : CallR X (.builtin "all") (rAll K) := by subst hK; exact cr_all hc
theorem u_sl (hK : X.K = K := by rfl) : SlR X (uSl K) := by subst hK; exact sl_list.or (sl_tupA.or sl_str)
theorem c_isiT (hK : X.K = K := by rfl) : CallR X (.builtin "isinstance") (rIsiT K) := by subst hK; exact call_isiT
end
/-- isinstance(e, (c1, ..)), e the exception that the suite holds -/
def rIsXT (K : PySem.W.Frag) (mg : Str → Option Value) (a : Addr) (cls : Value) (d : Option Addr) : List V → Hp → VK → Prop := fun xs H Q =>
  ∃ (n : Str) (C fI dd : Addr) (v : V) (tp : Addr) (cs : List V) (us : List Value) (b : Bool), xs = [.ref a, .ref tp] ∧ cls = .ref C ∧ PySem.GErr.ErrTxt K mg n C fI ∧ d = some dd ∧ H dd = some (.xd (subj v)) ∧ H tp = some (.tup cs) ∧ Paired ClsV cs us ∧ PySem.W.kitAny K (.ref C) us = some b ∧ Q (.bl b) H
theorem call_isXT {X : Cx} (K : PySem.W.Frag) (mg : Str → Option Value) {a : Addr} {oe : Obj} {cls : Value} {d : Option Addr} (hz : Zc cls d oe) (hf : ∃ vs, oe.data = .fields vs) (hp : (a, oe) ∈ X.pn := by exact List.Mem.head _) (hK : X.K = K := by rfl) (hM : X.mg = mg := by rfl) : CallR X (.builtin "isinstance") (rIsXT K mg a cls d) := by
  subst hK
  subst hM
  intro pins s σ H xs us Q I r h
  obtain ⟨n, C, fI, dd, v, tp, cs, ws, b, rfl, ec, T, ed, ea, hT, k, hk, q⟩ := h
  subst ec
  subst ed
  obtain ⟨u1, u2, rfl, r1, r2⟩ := vals2 r
  cases r1
  cases (show u2 = Value.ref tp from r2)
  obtain ⟨hget, _⟩ := I.pin (a, oe) (List.mem_append_left _ hp)
  obtain ⟨vs, hd⟩ := hf
  obtain ⟨mA, hns, hr⟩ := (show ObjOk X.prog X.w H s.heap dd (.xd (subj v)) from I.hok dd _ ea)
  obtain ⟨od, ho, hl⟩ := lookIn_ns hns
  have J : PySem.W.InstAt s.heap a oe C (some od) := ⟨hget, hz.1, by unfold PySem.W.notCls; rw [hd] <;> rfl, by rw [hz.2]; exact ho⟩
  have hcl : (PySem.W.clsIn X.K C).isSome = true := by
    obtain ⟨cd, hc, _⟩ := PySem.W.any_some T.hdC
    rw [hc]
    rfl
  obtain ⟨_, its, rv, o, h1, h2, m, h3⟩ := (show ObjOk X.prog X.w H s.heap tp (.tup cs) from I.hok tp _ hT)
  have e3 := ClsV.all k rv
  subst e3
  obtain ⟨oc, od', dt, sl⟩ := o
  simp only at h2 h3
  subst h2 h3
  exact PySem.W.kia_tup (PySem.W.kitx_exc (x := a) (ox := oe) (od := some od) hcl T.ga T.gg T.exC T.haC T.hnC T.htC T.hmC) I.kIn J h1 hk (fun z => nomatch z) fun tk => ⟨.bl b, H, I.tok tk, rfl, q⟩
/-! ### == of data -/
theorem eqv_ints : ∀ {ms ns : List Int}, PyData.eqvAll (ms.map PyData.int) (ns.map PyData.int) = decide (ms = ns)
  | [], [] => by simp [PyData.eqvAll]
  | [], n :: ns => by simp [PyData.eqvAll]
  | m :: ms, [] => by simp [PyData.eqvAll]
  | m :: ms, n :: ns => by
    rw [List.map_cons, List.map_cons]
    unfold PyData.eqvAll
    rw [eqv_ints]
    unfold PyData.eqv
    rw [Bool.eq_iff_iff]
    simp
theorem lay_ints : ∀ {ms : List Int}, PyData.canLayAll0 (ms.map PyData.int) = true ∧ PyData.depthAll (ms.map PyData.int) = 0
  | [] => ⟨rfl, rfl⟩
  | m :: ms => by
    obtain ⟨h1, h2⟩ := lay_ints (ms := ms)
    rw [List.map_cons]
    unfold PyData.canLayAll0 PyData.depthAll
    rw [h1, h2]
    exact ⟨rfl, rfl⟩
section
variable {K : PySem.W.Frag} {H : Hp} {Q : VK} {a b c d l p : Addr} {ms ns : List Int} {xs ys : List V} {n : Nat} {i : Int}
theorem dp_ints : ∀ {ms : List Int}, DpAll K H (ms.map V.int) (ms.map PyData.int)
  | [] => .nil
  | m :: ms => .cons (.int m) dp_ints
theorem shaped_ints : SeqAt.shaped (.list (ms.map PyData.int)) = true := by
  unfold SeqAt.shaped PyData.canLay0 PyData.depth
  rw [lay_ints.1, lay_ints.2]
  rfl
theorem shaped_intsT : SeqAt.shaped (.tuple (ms.map PyData.int)) = true := by
  unfold SeqAt.shaped PyData.canLay0 PyData.depth
  rw [lay_ints.1, lay_ints.2]
  rfl
theorem shaped_1T : SeqAt.shaped (.list [.tuple (ms.map PyData.int)]) = true := by
  unfold SeqAt.shaped PyData.canLay0 PyData.depth PyData.canLayAll0 PyData.depthAll PyData.canLayAll0 PyData.depthAll PyData.canLay0 PyData.depth
  rw [lay_ints.1, lay_ints.2]
  rfl
theorem v_eqLI (ha : H a = some (.lst (ms.map V.int))) (hb : H b = some (.lst (ns.map V.int))) (q : Q (.bl (decide (ms = ns))) H) : uEq K (.ref a) (.ref b) H Q :=
  .inr ⟨_, _, .lst (SqL.of ha) dp_ints, .lst (SqL.of hb) dp_ints, shaped_ints, shaped_ints, by unfold PyData.eqv; rw [eqv_ints]; exact q⟩
theorem v_neLI (ha : H a = some (.lst (ms.map V.int))) (hb : H b = some (.lst (ns.map V.int))) (q : Q (.bl (!decide (ms = ns))) H) : uNe K (.ref a) (.ref b) H Q :=
  .inr ⟨_, _, .lst (SqL.of ha) dp_ints, .lst (SqL.of hb) dp_ints, shaped_ints, shaped_ints, by unfold PyData.eqv; rw [eqv_ints]; exact q⟩
theorem v_eqTI (ha : H a = some (.tup (ms.map V.int))) (hb : H b = some (.tup (ns.map V.int))) (q : Q (.bl (decide (ms = ns))) H) : uEq K (.ref a) (.ref b) H Q :=
  .inr ⟨_, _, .tup (SqT.of ha) dp_ints, .tup (SqT.of hb) dp_ints, shaped_intsT, shaped_intsT, by unfold PyData.eqv; rw [eqv_ints]; exact q⟩
theorem v_neTI (ha : H a = some (.tup (ms.map V.int))) (hb : H b = some (.tup (ns.map V.int))) (q : Q (.bl (!decide (ms = ns))) H) : uNe K (.ref a) (.ref b) H Q :=
  .inr ⟨_, _, .tup (SqT.of ha) dp_ints, .tup (SqT.of hb) dp_ints, shaped_intsT, shaped_intsT, by unfold PyData.eqv; rw [eqv_ints]; exact q⟩
theorem v_neL1T (ha : H a = some (.lst [.ref c])) (hc : H c = some (.tup (ms.map V.int))) (hb : H b = some (.lst [.ref d])) (hd : H d = some (.tup (ns.map V.int))) (q : Q (.bl (!decide (ms = ns))) H) : uNe K (.ref a) (.ref b) H Q :=
  .inr ⟨_, _, .lst (SqL.of ha) (.cons (.tup (SqT.of hc) dp_ints) .nil), .lst (SqL.of hb) (.cons (.tup (SqT.of hd) dp_ints) .nil), shaped_1T, shaped_1T, by
    have e : PyData.eqv (.list [.tuple (ms.map PyData.int)]) (.list [.tuple (ns.map PyData.int)]) = decide (ms = ns) := by
      have e0 : PyData.eqv (.list [.tuple (ms.map PyData.int)]) (.list [.tuple (ns.map PyData.int)]) = (PyData.eqvAll (ms.map PyData.int) (ns.map PyData.int) && true) := by simp only [PyData.eqv, PyData.eqvAll]
      rw [e0, eqv_ints, Bool.and_true]
    rw [e]
    exact q⟩
/-! ### conversions by values -/
theorem v_listL (ha : H a = some (.lst xs)) (k : ∀ p H2, H p = none → Ext H H2 → H2 p = some (.lst xs) → Q (.ref p) H2) : cList K [.ref a] H Q := ⟨a, xs, rfl, .inl (SqL.of ha), fun p hp => k p _ hp (Ext.new hp) upd_same⟩
theorem v_listT (ha : H a = some (.tup xs)) (k : ∀ p H2, H p = none → Ext H H2 → H2 p = some (.lst xs) → Q (.ref p) H2) : cList K [.ref a] H Q := ⟨a, xs, rfl, .inr (SqT.of ha), fun p hp => k p _ hp (Ext.new hp) upd_same⟩
theorem v_tupL (ha : H a = some (.lst xs)) (k : ∀ p H2, H p = none → Ext H H2 → H2 p = some (.tup xs) → Q (.ref p) H2) : cTuple K [.ref a] H Q := ⟨a, xs, rfl, .inl ⟨SqL.of ha, fun p hp => k p _ hp (Ext.new hp) upd_same⟩⟩
theorem v_tupT (ha : H a = some (.tup xs)) (k : Q (.ref a) H) : cTuple K [.ref a] H Q := ⟨a, xs, rfl, .inr ⟨SqT.of ha, k⟩⟩
theorem v_sum (ha : H a = some (.lst (ms.map V.int))) (k : Q (.int ms.sum) H) : rSum K [.ref a] H Q := ⟨a, ms, rfl, SqL.of ha, k⟩
theorem v_any {bs : List Bool} (ha : H a = some (.lst (bs.map V.bl))) (k : Q (.bl (bs.any id)) H) : rAny K [.ref a] H Q := ⟨a, bs, rfl, SqL.of ha, k⟩
theorem v_all {bs : List Bool} (ha : H a = some (.lst (bs.map V.bl))) (k : Q (.bl (bs.all id)) H) : rAll K [.ref a] H Q := ⟨a, bs, rfl, SqL.of ha, k⟩
/-- xs[:n], a list -/
theorem v_slLn (ha : H a = some (.lst xs)) (k : ∀ p H2, H p = none → Ext H H2 → H2 p = some (.lst (xs.take n)) → Q (.ref p) H2) : uSl K (.ref a) none (some (n : Int)) H Q := by
  refine .inl ⟨a, xs, rfl, SqL.of ha, fun p hp => k p _ hp (Ext.new hp) ?_⟩
  rw [upd_same]
  have e : cutV xs none (some (n : Int)) = xs.take n := by
    unfold cutV
    have e1 : HT.sIx xs.length 0 none = 0 := rfl
    rw [e1, HT.sIx_nat, Nat.sub_zero, List.drop_zero]
    rcases Nat.le_total n xs.length with h | h
    · rw [Nat.min_eq_left h]
    · rw [Nat.min_eq_right h, List.take_length, List.take_of_length_le h]
  rw [e]
theorem rep_flat {v : V} : ∀ n : Nat, (List.replicate n [v]).flatten = List.replicate n v
  | 0 => rfl
  | n + 1 => by rw [List.replicate_succ, List.replicate_succ, List.flatten_cons, rep_flat n]; rfl
theorem v_rep1 {v : V} (ha : H a = some (.lst [v])) (hn : n ≤ 1000000) (k : ∀ p H2, H p = none → Ext H H2 → H2 p = some (.lst (List.replicate n v)) → Q (.ref p) H2) : uMul (.ref a) (.int (n : Int)) H Q := by
  refine .inr ⟨a, n, [v], rfl, rfl, ha, by omega, by omega, ?_, fun p hp => k p _ hp (Ext.new hp) ?_⟩
  · have := sizeLine_eq
    simp
    omega
  · rw [upd_same]
    rw [Int.toNat_natCast, rep_flat]
theorem v_isTT (ha : H a = some (.tup xs)) (q : Q (.bl true) H) : rIsi K [.ref a, .ty "tuple"] H Q := ⟨.ref a, .ty "tuple", .type "tuple", .type "tuple", true, rfl, .ty _, .base (.tup ha), kit_ty (by decide +kernel), q⟩
end
theorem pe_mkRSK {X : Cx} {C : Addr} {sp : Sp} {E : L2.St → XK} {te : TE} {e : Expr} (K : PySem.W.Frag) (h : PE X e (tMkRS X.K C sp E te)) (hK : X.K = K := by rfl) : PE X e (tMkRS K C sp E te) := by subst hK; exact h
theorem pe_zipLK {X : Cx} {t : TA} {e : Expr} (K : PySem.W.Frag) (h : PE X e (tZipL X.K t)) (hK : X.K = K := by rfl) : PE X e (tZipL K t) := by subst hK; exact h
theorem br_yes {p A B : Prop} [Decidable p] (h : p) (k : A) : Br (decide p) A B := by rw [decide_eq_true h]; exact br_t k
theorem br_no {p A B : Prop} [Decidable p] (h : ¬ p) (k : B) : Br (decide p) A B := by rw [decide_eq_false h]; exact br_f k
/-! ### slices, step by step -/
def rPart (x : V) (H : Hp) (Q : Option Int → Hp → Prop) : Prop := ∃ i, x = .int i ∧ Q (some i) H
section
variable {K : PySem.W.Frag} {σ : L2.St} {H : Hp} {Q : VK} {QO : Option Int → Hp → Prop} {te ta tb : TE} {tl th : TO} {i : Int} {sp : Sp} {E : L2.St → XK} {C a dx : Addr} {fs : List (Str × V)} {y : V}
instance i_sl {r : V → Option Int → Option Int → Hp → VK → Prop} : St1 (tSl r te tl th σ H Q) (te σ H fun x H1 => tl σ H1 fun l H2 => th σ H2 fun u H3 => r x l u H3 Q) := ⟨fun h => h⟩
instance i_nopart : St1 (tNoPart σ H QO) (QO none H) := ⟨fun h => h⟩
instance i_part : St1 (tPart te σ H QO) (te σ H fun x H1 => rPart x H1 QO) := ⟨fun h => h⟩
instance i_partI : St1 (rPart (.int i) H QO) (QO (some i) H) := ⟨fun h => ⟨i, rfl, h⟩⟩
theorem v_get (ha : H a = some (.ins C dx fs)) (q : sp [.ref a, y] H Q (E σ)) : rGet C sp E σ (.ref a) y H Q := ⟨a, dx, fs, rfl, ha, q⟩
theorem v_isXT {mg : Str → Option Value} {n : Str} {fI dd tp : Addr} {v : V} {cs : List V} {us : List Value} {b : Bool} (T : PySem.GErr.ErrTxt K mg n C fI) (hd : H dd = some (.xd (subj v))) (hT : H tp = some (.tup cs)) (hp : Paired ClsV cs us) (k : PySem.W.kitAny K (.ref C) us = some b) (q : Q (.bl b) H) : rIsXT K mg a (.ref C) (some dd) [.ref a, .ref tp] H Q :=
  ⟨n, C, fI, dd, v, tp, cs, us, b, rfl, rfl, T, rfl, hd, hT, hp, k, q⟩
end
/-! ### comprehensions by a walk -/
/-- the test and the element of a comprehension, its names set -/
def LcT (vs : List Nat) (σw : L2.St) (tt : TT) (te : TE) (kY : VK) (kN : Hp → Prop) (σ2 : L2.St) (H2 : Hp) : Prop := wipe σ2 vs = σw ∧ tt σ2 H2 fun b H3 => Br b (te σ2 H3 kY) (kN H3)
section
variable {K : PySem.W.Frag} {J : It} {n : Nat} {G : Hp → Prop} {Y : Nat → Hp → V → Hp → Prop} {σ σw : L2.St} {H : Hp} {g : TG} {tt : TT} {te : TE} {vs : List Nat} {Q : VK} {kY : VK} {kN : Hp → Prop}
instance i_lct [a : WipeS σ vs σw] : St1 (LcT vs σw tt te kY kN σ H) (tt σ H fun b H3 => Br b (te σ H3 kY) (kN H3)) := ⟨fun h => ⟨a.h, h⟩⟩
theorem f_it {nx bk ct : L2.St → Hp → Prop} {rt : VK} {t : TS} (w : Walk J n G Y) (Pv : Nat → L2.St → Hp → Prop) (h0 : Pv 0 σ H) (hG : ∀ i σ H, i ≤ n → Pv i σ H → G H)
    (hs : ∀ i x σ H H', i < n → Pv i σ H → Y i H x H' → g x σ H' fun σ2 H2 => Run t (Pv (i + 1)) rt nx (Pv (i + 1)) σ2 H2) (hd : ∀ σ H, Pv n σ H → nx σ H) : rFor J g t nx rt bk ct σ H := for_it (D := ⟨nx, rt, bk, ct⟩) w Pv h0 hG hs hd
/-- the new list at D has its items so far, of which R -/
def LcAtW (D : Addr) (j : Nat) (R : Nat → List V → Hp → Prop) (H : Hp) : Prop := ∃ acc, H D = some (.lst acc) ∧ acc.length ≤ j ∧ R j acc H
def AccK (D : Addr) (j : Nat) (R : Nat → List V → Hp → Prop) (y : V) (H : Hp) : Prop := rAcc D (LcAtW D j R) y H
theorem v_accK {D : Addr} {j : Nat} {R : Nat → List V → Hp → Prop} {acc : List V} {y : V} (hD : H D = some (.lst acc)) (hl : acc.length < j) (hj : j ≤ 1000000) (k : ∀ H2, But D H H2 → R j (acc ++ [y]) H2) : AccK D j R y H :=
  ⟨acc, hD, by have := sizeLine_eq; omega, acc ++ [y], upd_same, by simp; omega, k _ But.upd⟩
theorem lcW (w : Walk J n G Y) [a : WipeS σ vs σw] (R : Nat → List V → Hp → Prop) (h0 : ∀ H1, Ext H H1 → R 0 [] H1) (hG : ∀ i acc H1, i ≤ n → R i acc H1 → G H1)
    (hs : ∀ i x D acc H1 H1', H D = none → i < n → R i acc H1 → Y i H1 x H1' → H1 D = some (.lst acc) → acc.length ≤ i → g x σw H1' fun σ2 H2 => LcT vs σw tt te (AccK D (i + 1) R) (LcAtW D (i + 1) R) σ2 H2)
    (hd : ∀ D acc H1, H D = none → H1 D = some (.lst acc) → acc.length ≤ n → R n acc H1 → Q (.ref D) H1) : rLc J g tt te vs σ H Q := by
  intro D hD
  refine lc_it w (Pv := fun i H1 => LcAtW D i R H1) ⟨[], upd_same, Nat.le_refl _, h0 _ (Ext.new hD)⟩ ?_ ?_ ?_
  · rintro i H1 hi ⟨acc, ha, hl, hr⟩
    exact hG i acc H1 hi hr
  · rintro i x H1 H1' hi ⟨acc, ha, hl, hr⟩ hy
    rw [a.h]
    exact hs i x D acc H1 H1' hD hi hr hy ha hl
  · rintro H1 ⟨acc, ha, hl, hr⟩
    exact hd D acc H1 hD ha hl hr
/-- [e for x in ..], e's value told, what was stays -/
theorem lcP (w : Walk J n G Y) [a : WipeS σ vs σw] (hn : n ≤ 1000000) (f : Nat → V) (hG : ∀ H1, Ext H H1 → G H1) (hY : ∀ i H1 x H1', Y i H1 x H1' → Ext H1 H1')
    (hs : ∀ i x H1 H1' (k : VK), i < n → Ext H H1 → Y i H1 x H1' → (∀ H2, Ext H1' H2 → k (f i) H2) → g x σw H1' fun σ2 H2 => LcK vs σw te k σ2 H2)
    (hd : ∀ D H1, H D = none → Ext H H1 → H1 D = some (.lst ((List.range n).map f)) → Q (.ref D) H1) : rLc J g tYes te vs σ H Q := by
  refine lcW w (fun i acc H1 => Ext H H1 ∧ acc = (List.range i).map f) (fun H1 e => ⟨e, rfl⟩) (fun i acc H1 _ h => hG H1 h.1) ?_ ?_
  · rintro i x D acc H1 H1' hD hi ⟨e, rfl⟩ hy h1 hl
    refine hs i x H1 H1' _ hi e hy fun H2 e2 => ?_
    have e1 := hY i H1 x H1' hy
    refine v_accK ((e1.trans e2).look h1) (by simp) (by omega) fun H3 b3 => ⟨b3.ext ((e.trans e1).trans e2) hD, ?_⟩
    rw [List.range_succ, List.map_append, List.map_singleton]
  · rintro D acc H1 hD h1 hl ⟨e, rfl⟩
    exact hd D H1 hD e h1
theorem yat_ext {xs : List V} {i : Nat} {H1 H1' : Hp} {x : V} (h : YAt xs i H1 x H1') : Ext H1 H1' := by rw [h.1]; exact Ext.rfl
theorem yfn_ext {f : Nat → V} {i : Nat} {H1 H1' : Hp} {x : V} (h : YFn f i H1 x H1') : Ext H1 H1' := by rw [h.1]; exact Ext.rfl
/-- .. over a list -/
theorem lcPL {ad : Addr} {xs : List V} [a : WipeS σ vs σw] (ha : H ad = some (.lst xs)) (hn : xs.length ≤ 1000000) (f : Nat → V)
    (hs : ∀ i x H1 (k : VK), xs[i]? = some x → Ext H H1 → (∀ H2, Ext H1 H2 → k (f i) H2) → g x σw H1 fun σ2 H2 => LcK vs σw te k σ2 H2)
    (hd : ∀ D H1, H D = none → Ext H H1 → H1 D = some (.lst ((List.range xs.length).map f)) → Q (.ref D) H1) : rLc (Itl K ad) g tYes te vs σ H Q :=
  lcP (walk_list (xs := xs)) hn f (fun H1 e => SqL.of (e.look ha)) (fun _ _ _ _ h => yat_ext h) (fun i x H1 H1' k _ e hy hk => by obtain ⟨rfl, hx⟩ := hy; exact hs i x H1' k hx e hk) hd
theorem lcPT {ad : Addr} {xs : List V} [a : WipeS σ vs σw] (ha : H ad = some (.tup xs)) (hn : xs.length ≤ 1000000) (f : Nat → V)
    (hs : ∀ i x H1 (k : VK), xs[i]? = some x → Ext H H1 → (∀ H2, Ext H1 H2 → k (f i) H2) → g x σw H1 fun σ2 H2 => LcK vs σw te k σ2 H2)
    (hd : ∀ D H1, H D = none → Ext H H1 → H1 D = some (.lst ((List.range xs.length).map f)) → Q (.ref D) H1) : rLc (Itt K ad) g tYes te vs σ H Q :=
  lcP (walk_tup (xs := xs)) hn f (fun H1 e => SqT.of (e.look ha)) (fun _ _ _ _ h => yat_ext h) (fun i x H1 H1' k _ e hy hk => by obtain ⟨rfl, hx⟩ := hy; exact hs i x H1' k hx e hk) hd
theorem lcPR {lo : Int} [a : WipeS σ vs σw] (hn : n ≤ 1000000) (f : Nat → V)
    (hs : ∀ (i : Nat) H1 (k : VK), i < n → Ext H H1 → (∀ H2, Ext H1 H2 → k (f i) H2) → g (.int (lo + i)) σw H1 fun σ2 H2 => LcK vs σw te k σ2 H2)
    (hd : ∀ D H1, H D = none → Ext H H1 → H1 D = some (.lst ((List.range n).map f)) → Q (.ref D) H1) : rLc (Itr lo n) g tYes te vs σ H Q :=
  lcP walk_range hn f (fun H1 e => trivial) (fun _ _ _ _ h => yfn_ext h) (fun i x H1 H1' k hi e hy hk => by obtain ⟨rfl, rfl⟩ := hy; exact hs i H1' k hi e hk) hd
theorem lcPR0 [a : WipeS σ vs σw] (hn : n ≤ 1000000) (f : Nat → V)
    (hs : ∀ (i : Nat) H1 (k : VK), i < n → Ext H H1 → (∀ H2, Ext H1 H2 → k (f i) H2) → g (.int (i : Int)) σw H1 fun σ2 H2 => LcK vs σw te k σ2 H2)
    (hd : ∀ D H1, H D = none → Ext H H1 → H1 D = some (.lst ((List.range n).map f)) → Q (.ref D) H1) : rLc (Itr 0 n) g tYes te vs σ H Q :=
  lcPR hn f (fun i H1 k hi e hk => by rw [Int.zero_add]; exact hs i H1 k hi e hk) hd
/-- [e for x in ..], the heap changing at p alone, of which S holds; R of each item -/
theorem lcB (w : Walk J n G Y) [a : WipeS σ vs σw] (hn : n ≤ 1000000) {p : Addr} {ps : List V} (hp : H p = some (.lst ps)) (S : Hp → Prop) (R : Nat → V → Prop) (h0 : S H) (hSm : ∀ H1 H2 D, But p H H1 → S H1 → H D = none → D ≠ p → But D H1 H2 → S H2) (hG : ∀ H1, But p H H1 → S H1 → G H1) (hY : ∀ i H1 x H1', Y i H1 x H1' → Ext H1 H1')
    (hs : ∀ i x H1 H1' (k : VK), i < n → But p H H1 → S H1 → Y i H1 x H1' → (∀ y H2, But p H1' H2 → S H2 → R i y → k y H2) → g x σw H1' fun σ2 H2 => LcK vs σw te k σ2 H2)
    (hd : ∀ D ys H1, H D = none → But p H H1 → S H1 → H1 D = some (.lst ys) → ys.length = n → (∀ i y, ys[i]? = some y → R i y) → Q (.ref D) H1) : rLc J g tYes te vs σ H Q := by
  have nD : ∀ D, H D = none → D ≠ p := fun D hD => Ne.symm (ne_of_none hp hD)
  intro D hD
  refine lc_it w (Pv := fun i H1 => LcAtW D i (fun i acc H1 => But p H H1 ∧ S H1 ∧ acc.length = i ∧ ∀ j y, acc[j]? = some y → R j y) H1) ⟨[], upd_same, Nat.le_refl _, (Ext.new hD).but, hSm H _ D But.rfl h0 hD (nD D hD) But.upd, rfl, fun j y h => by simp at h⟩ ?_ ?_ ?_
  · rintro i H1 hi ⟨acc, ha, hl, hb, hS, _⟩
    exact hG H1 hb hS
  · rintro i x H1 H1' hi ⟨acc, ha, hl, hb, hS, he, hr⟩ hy
    rw [a.h]
    refine hs i x H1 H1' _ hi hb hS hy fun y H2 b2 s2 r2 => ?_
    have e1 := hY i H1 x H1' hy
    refine v_accK (D := D) (j := i + 1) (b2.look (nD D hD) (e1.look ha)) (by omega) (by omega) fun H3 b3 => ?_
    have bb : But p H H2 := (hb.exts e1).trans b2
    refine ⟨fun q o nq z => b3 q o (ne_of_none z hD) (bb q o nq z), hSm H2 H3 D bb s2 hD (nD D hD) b3, by simp; omega, fun j z hz => ?_⟩
    by_cases hj : j < acc.length
    · rw [List.getElem?_append_left hj] at hz
      exact hr j z hz
    · rw [List.getElem?_append_right (by omega)] at hz
      have : j - acc.length = 0 := by
        cases hjj : j - acc.length with
        | zero => rfl
        | succ m => rw [hjj] at hz; simp at hz
      rw [this] at hz
      obtain rfl : y = z := by simpa using hz
      rw [show j = i by omega]
      exact r2
  · rintro H1 ⟨acc, ha, hl, hb, hS, he, hr⟩
    exact hd D acc H1 hD hb hS ha he hr
end
end GG

/-! GE: for i, c in enumerate(text). -/
namespace GG
open PySem PySem.Spec L2 PyProof.Rows
/-- a text's signs, each in a new pair with its place -/
def Itx (z : Str) : It :=
  ⟨fun i _ => i < z.cps.size, fun i H v H' => ∃ T c, v = .ref T ∧ H T = none ∧ z.cps[i]? = some c ∧ H' = upd H T (.tup [.int (i : Nat), .str ⟨#[c]⟩]), fun i _ => i = z.cps.size⟩
theorem turn_enumS {P : Program} {w : World} {K : PySem.W.Frag} {elts : List Expr} {kk : Nat} {tpos : Pos} (z : Str) (t : Tok) (e it : Addr) :
    Turn P w K (.Tuple elts kk tpos) (Itx z) [e, it] e (fun i h => (∃ old, IsEnum h e it ((i : Nat) : Int) old) ∧ h.IsStrIter it (strIterType z) z t i ∧ e ≠ it) where
  mem := by simp
  obj := fun i h st b hb => by
    obtain ⟨⟨old, he⟩, ⟨ob, g1, g2, g3⟩, _⟩ := st
    rcases (show b = e ∨ b = it by simpa using hb) with y | y
    · rw [y]; exact ⟨_, he, fun v q => nomatch q⟩
    · rw [y]; exact ⟨ob, g1, fun v q => by rw [g3] at q; cases q⟩
  keep := fun i h h' st k => let ⟨⟨old, he⟩, ⟨ob, g1, g2⟩, hne⟩ := st; ⟨⟨old, k e (by simp) _ he⟩, ⟨ob, k it (by simp) _ g1, g2⟩, hne⟩
  item := by
    intro X hP hw hK hc i pins s σ H E I hf st hg
    subst hP hw hK
    obtain ⟨⟨old, he⟩, hit, hne⟩ := st
    have hel : e < s.heap.objs.size := Heap.lt_size he
    have hil : it < s.heap.objs.size := by obtain ⟨_, q, _⟩ := hit; exact Heap.lt_size q
    have D := Draws.text (prog := X.prog) (w := X.w) (A := X.A.in1) (I.ok.hd hc) it z t
    refine wpAny_pyNext_enum_itemD D he hit hg hne (by simpa using hne) fun x h' tk px ho hit' hT hsz hk => ?_
    obtain ⟨ch, tu, hch, rfl⟩ := px
    refine ⟨_, rfl, wpAny_letOwnedTupleGo_enum (s := { s with heap := h', toks := tk + 1 }) ho fun h'' he' sb => ?_⟩
    have hT2 : h''.get? s.heap.objs.size = some { cls := .type "tuple", data := .seq #[.int i tk, .str ⟨#[ch]⟩ tu] } := (sb.2 _ (Nat.ne_of_gt hel)).trans hT
    have new : ObjOk X.prog X.w (upd H s.heap.objs.size (.tup [.int (i : Nat), .str ⟨#[ch]⟩])) h'' s.heap.objs.size (.tup [.int (i : Nat), .str ⟨#[ch]⟩]) :=
      ⟨by show 2 ≤ sizeLine; decide, [.int i tk, .str ⟨#[ch]⟩ tu], .cons ⟨_, rfl⟩ (.cons ⟨_, rfl⟩ .nil), ⟨_, hT2, rfl, _, rfl⟩⟩
    have I1 : L2.Inv X pins σ (upd H s.heap.objs.size (.tup [.int (i : Nat), .str ⟨#[ch]⟩])) { s with heap := h'', toks := tk + 1 } :=
      I.turnedNew (ch := [e, it]) (fun b ob hb q => (sb.2 b (fun y => hb (by simp [y]))).trans (hk b ob (fun y => hb (by simp [y])) (fun y => hb (by simp [y])) q)) hf (Nat.le_refl _) new
    refine ⟨.ref s.heap.objs.size, _, I1, rfl, ⟨_, ch, rfl, I.hok.fresh (Nat.le_refl _), hch, rfl⟩, ⟨⟨.str ⟨#[ch]⟩ tu, ?_⟩, (let ⟨ob, g1, g2⟩ := hit'; ⟨ob, (sb.2 it (Ne.symm hne)).trans g1, g2⟩), hne⟩, fun b hb => ?_⟩
    · rw [show ((i + 1 : Nat) : Int) = (i : Int) + 1 by omega]; exact he'
    · have hb' : b < s.heap.objs.size := by
        rcases (show b = e ∨ b = it by simpa using hb) with y | y
        · rw [y]; exact hel
        · rw [y]; exact hil
      rw [upd_ne (Nat.ne_of_lt hb')]
      exact (hf b hb).1
  done := by
    intro X hP hw hK hc i pins s σ H E I hf st hg
    subst hP hw hK
    obtain ⟨⟨old, he⟩, hit, hne⟩ := st
    obtain ⟨f0, f1, f2, f3, f4, f5⟩ := hf it (by simp)
    have hg' : i = z.cps.size := hg
    subst hg'
    have D := Draws.text (prog := X.prog) (w := X.w) (A := X.A.in1) (I.ok.hd hc) it z t
    exact wpAny_pyNext_enum_endD D he hit fun h' eb => ⟨rfl, I.turned (t' := s.toks) (fun b o hb q => eb b o hb q) f0 f1 f3 f4 f5⟩
  self := fun A i s Q E st h => let ⟨⟨_, he⟩, _⟩ := st; wpAny_pyIter_enum he h
def iEnumS (ta : TA) : TI := fun σ H R => ta σ H fun vs H1 => ∃ z, vs = [.str z] ∧ R (Itx z) H1
theorem pi_enumS {X : Cx} {e : Expr} {ta : TA} {p pos tpos : Pos} {elts : List Expr} {kk : Nat} (hg : Gl X "enumerate") (hm : X.mg "enumerate" = none) (ha : PA X [e] ta) (hs : starEach [e] X.env = [(false, eval e X.env)] := by rfl) :
    PI X (.Tuple elts kk tpos) (.Call (.Name "enumerate" p) [e] [] pos) (iEnumS ta) := by
  refine ⟨fun pins s σ H R I h => ?_⟩
  refine Call_ (ld_blt I hg hm boot_enumerate (PyProof.Rows.callWith_type1 (thn (ha.run pos pins s σ H _ I h) fun us s1 ⟨vs, H1, I1, r1, q1⟩ => ?_) hs rfl))
  obtain ⟨z, ex, q⟩ := q1
  subst ex
  obtain ⟨u, rfl, ru⟩ := vals1 r1
  obtain ⟨t, rfl⟩ := (show ∃ t, u = Value.str z t from ru)
  refine call_enumerate_str fun h' he hit hsz hk => wpAny_pyIter_enum he ?_
  have I2 : L2.Inv X pins σ H1 { s1 with heap := h' } := I1.kept (t' := s1.toks) hk
  refine ⟨s1.heap.objs.size + 1, [s1.heap.objs.size + 1, s1.heap.objs.size], _, _, H1, rfl, I2, turn_enumS z t (s1.heap.objs.size + 1) s1.heap.objs.size, ⟨⟨.none, he⟩, hit, Nat.succ_ne_self _⟩, fun b hb => ?_, q⟩
  have hle : s1.heap.objs.size ≤ b := by
    rcases (show b = s1.heap.objs.size + 1 ∨ b = s1.heap.objs.size by simpa using hb) with y | y
    · rw [y]; exact Nat.le_add_right _ _
    · rw [y]; exact Nat.le_refl _
  exact I1.fpOk hle (I1.hok.fresh hle)
theorem walk_enumS {z : Str} : Walk (Itx z) z.cps.size (fun _ => True) (fun i H v H' => ∃ T c, v = .ref T ∧ H T = none ∧ z.cps[i]? = some c ∧ H' = upd H T (.tup [.int (i : Nat), .str ⟨#[c]⟩])) :=
  ⟨fun _ _ hi _ => hi, fun _ _ => rfl, fun _ _ _ _ _ _ y => y⟩
def rEnS (vs : List V) (H : Hp) (R : It → Hp → Prop) : Prop := ∃ z, vs = [.str z] ∧ R (Itx z) H
instance i_enumS {ta : TA} {σ : L2.St} {H : Hp} {R : It → Hp → Prop} : St1 (iEnumS ta σ H R) (ta σ H fun vs H1 => rEnS vs H1 R) := ⟨fun h => h⟩
instance j_enumS {z : Str} {H : Hp} {R : It → Hp → Prop} : St1 (rEnS [.str z] H R) (R (Itx z) H) := ⟨fun h => ⟨z, rfl, h⟩⟩
end GG

/-! GN: notes, their texts, the reader as a machine (pure). -/
namespace GN
open PySem PySem.NumText
/-! ### the digits of a number -/
def dig (m : Nat) : List Nat := (Nat.toDigits 10 m).map Char.toNat
def itx (i : Int) : List Nat := if i < 0 then 45 :: dig i.natAbs else dig i.natAbs
theorem dig_val (m : Nat) : digitsVal (dig m) = m := PySem.W.KIN.val_back m
theorem dig_all (m : Nat) : AllDigits (dig m) := by
  intro c hc
  obtain ⟨ch, hch, e⟩ := List.mem_map.mp hc
  have h := Nat.isDigit_of_mem_toDigits (b := 10) (by decide) (by decide) hch
  rw [← e]
  simp only [Char.isDigit, Bool.and_eq_true, decide_eq_true_eq] at h
  exact ⟨h.1, h.2⟩
theorem dig_small {m : Nat} (h : m < 10) : dig m = [48 + m] := by
  unfold dig
  rw [Nat.toDigits_of_lt_base h]
  have : ∀ d : Nat, d < 10 → (Nat.digitChar d).toNat = 48 + d := by decide
  show [(Nat.digitChar m).toNat] = _
  rw [this m h]
theorem dig_big {m : Nat} (h : 10 ≤ m) : dig m = dig (m / 10) ++ [48 + m % 10] := by
  have hm : m % 10 < 10 := Nat.mod_lt m (by decide)
  have t : Nat.toDigits 10 (m / 10) ++ Nat.toDigits 10 (m % 10) = Nat.toDigits 10 (10 * (m / 10) + m % 10) := Nat.toDigits_append_toDigits (by decide) (by omega) hm
  rw [Nat.div_add_mod] at t
  have e2 := dig_small hm
  unfold dig at *
  rw [← t, List.map_append, e2]
theorem dig_head : ∀ (m : Nat), 1 ≤ m → ∃ d ds, dig m = d :: ds ∧ 49 ≤ d ∧ d ≤ 57 := by
  intro m
  induction m using Nat.strongRecOn with
  | _ m ih =>
    intro h
    by_cases hm : m < 10
    · exact ⟨48 + m, [], dig_small hm, by omega, by omega⟩
    · obtain ⟨d, ds, e, h1, h2⟩ := ih (m / 10) (by omega) (by omega)
      exact ⟨d, ds ++ [48 + m % 10], by rw [dig_big (by omega), e]; rfl, h1, h2⟩
theorem dig_zero : dig 0 = [48] := dig_small (by decide)
theorem dig_len : ∀ (k m : Nat), m < 10 ^ k → 1 ≤ k → (dig m).length ≤ k := by
  intro k
  induction k with
  | zero => intro m _ h; exact absurd h (by decide)
  | succ k ih =>
    intro m h _
    by_cases hm : m < 10
    · rw [dig_small hm]; exact Nat.succ_le_succ (Nat.zero_le _)
    · rw [dig_big (by omega), List.length_append]
      have hk : 1 ≤ k := by
        cases k with
        | zero => simp at h; omega
        | succ k => omega
      have := ih (m / 10) (by rw [Nat.pow_succ] at h; omega) hk
      simp
      omega
/-! ### signs -/
def letter (c : Nat) : Bool := decide (97 ≤ c) && decide (c ≤ 122)
def digit (c : Nat) : Bool := decide (48 ≤ c) && decide (c ≤ 57)
def wordc (c : Nat) : Bool := letter c || digit c || c == 45 || c == 58
def firstc (c : Nat) : Bool := letter c || digit c || c == 45
/-! ### notes -/
inductive Nt where
  | non | wd (l : List Nat) | int (i : Int) | tup (xs : List Nt)
def joinL (S : List Nat) : List (List Nat) → List Nat
  | [] => []
  | [p] => p
  | p :: q :: r => p ++ (S ++ joinL S (q :: r))
mutual
def wr : Nt → List Nat
  | .non => [45]
  | .wd l => l
  | .int i => itx i
  | .tup xs => 40 :: (joinL [32] (wrs xs) ++ [41])
def wrs : List Nt → List (List Nat)
  | [] => []
  | x :: xs => wr x :: wrs xs
end
mutual
def depth : Nt → Nat
  | .tup xs => depths xs + 1
  | .non | .wd _ | .int _ => 0
def depths : List Nt → Nat
  | [] => 0
  | x :: xs => max (depth x) (depths xs)
end
def Word (l : List Nat) : Prop := ∃ c cs, l = c :: cs ∧ letter c = true ∧ (∀ d ∈ cs, wordc d = true) ∧ l.length ≤ 24
mutual
def Ok : Nt → Prop
  | .non => True
  | .wd l => Word l
  | .int i => i.natAbs < 10 ^ 200
  | .tup xs => Oks xs
def Oks : List Nt → Prop
  | [] => True
  | x :: xs => Ok x ∧ Oks xs
end
/-! ### the reader -/
inductive La where
  | start | token | item | space | bracket
deriving DecidableEq
structure Rd where
  cur : List Nt
  out : List (List Nt)
  tok : List Nat
  last : La
def bare (t : List Nat) : List Nat := match t with
  | 45 :: ds => ds
  | ds => ds
def goes (t : List Nat) (c : Nat) : Bool := if letter (t.headD 0) then wordc c && decide (t.length < 24) else if t = [45] then digit c && !decide (c = 48) else if t = [48] then false else digit c && decide ((bare t).length < 200)
def tval (t : List Nat) : Int := match t with
  | 45 :: ds => -((digitsVal ds : Nat) : Int)
  | ds => ((digitsVal ds : Nat) : Int)
def tnote (t : List Nat) : Nt := if t = [45] then .non else if letter (t.headD 0) then .wd t else .int (tval t)
def close (s : Rd) : Rd := match s.out with
  | [] => { s with cur := [.tup s.cur], out := [], last := .item }
  | r :: rs => { s with cur := r ++ [.tup s.cur], out := rs, last := .item }
def flush (s : Rd) : Rd := if s.last = .token then { s with cur := s.cur ++ [tnote s.tok] } else s
def open_ (l : La) : Bool := decide (l = .start) || decide (l = .bracket) || decide (l = .space)
def step (s : Rd) (c : Nat) : Option Rd :=
  if s.last = .token ∧ goes s.tok c = true then some { s with tok := s.tok ++ [c] }
  else if (s.last = .token ∨ s.last = .item) ∧ s.out ≠ [] ∧ (c = 32 ∨ c = 41) then
    some (if c = 41 then close (flush s) else { flush s with last := .space })
  else if s.last = .bracket ∧ c = 41 then some (close s)
  else if open_ s.last = true ∧ c = 40 ∧ s.out.length + 1 ≤ 100 then some { s with cur := [], out := s.cur :: s.out, last := .bracket }
  else if open_ s.last = true ∧ firstc c = true then some { s with tok := [c], last := .token }
  else none
def run (s : Rd) : List Nat → Option Rd
  | [] => some s
  | c :: cs => (step s c).bind fun s' => run s' cs
theorem run_append (s : Rd) (xs ys : List Nat) : run s (xs ++ ys) = (run s xs).bind fun s' => run s' ys := by
  induction xs generalizing s with
  | nil => rfl
  | cons c cs ih =>
    show (step s c).bind (fun s' => run s' (cs ++ ys)) = ((step s c).bind fun s' => run s' cs).bind _
    cases h : step s c with
    | none => rfl
    | some s' => exact ih s'
/-! ### a token -/
theorem run_go {s : Rd} (hl : s.last = .token) : ∀ (cs : List Nat), (∀ a b, cs = a ++ b → b ≠ [] → goes (s.tok ++ a) (b.headD 0) = true) → run s cs = some { s with tok := s.tok ++ cs } := by
  intro cs
  induction cs generalizing s with
  | nil => intro _; simp [run]
  | cons c cs ih =>
    intro h
    have h0 := h [] (c :: cs) rfl (by simp)
    rw [List.append_nil] at h0
    have e : step s c = some { s with tok := s.tok ++ [c] } := by
      unfold step
      rw [if_pos ⟨hl, h0⟩]
    show (step s c).bind _ = _
    rw [e]
    show run _ cs = _
    rw [ih (s := { s with tok := s.tok ++ [c] }) hl (fun a b hab hb => by
      have := h (c :: a) b (by rw [hab]; rfl) hb
      show goes (s.tok ++ [c] ++ a) _ = true
      rw [List.append_assoc]
      exact this)]
    simp
theorem step_first {s : Rd} {c : Nat} (ho : open_ s.last = true) (hc : firstc c = true) : step s c = some { s with tok := [c], last := .token } := by
  have n1 : ¬ s.last = .token := fun z => by rw [z] at ho; exact absurd ho (by decide)
  have n2 : ¬ s.last = .item := fun z => by rw [z] at ho; exact absurd ho (by decide)
  have n3 : ¬ c = 41 := fun z => by rw [z] at hc; exact absurd hc (by decide)
  have n4 : ¬ c = 40 := fun z => by rw [z] at hc; exact absurd hc (by decide)
  unfold step
  rw [if_neg (fun z => n1 z.1), if_neg (fun z => z.1.elim n1 n2), if_neg (fun z => n3 z.2), if_neg (fun z => n4 z.2.1), if_pos ⟨ho, hc⟩]
/-- the texts of items as tokens -/
structure Tok (t : List Nat) (n : Nt) : Prop where
  ne : ∃ c cs, t = c :: cs ∧ firstc c = true ∧ ∀ a b, cs = a ++ b → b ≠ [] → goes ([c] ++ a) (b.headD 0) = true
  note : tnote t = n
  stop : goes t 32 = false ∧ goes t 41 = false
theorem goes_stop (t : List Nat) : goes t 32 = false ∧ goes t 41 = false := by
  constructor
  · unfold goes
    split
    · rfl
    · split
      · rfl
      · split
        · rfl
        · rfl
  · unfold goes
    split
    · rfl
    · split
      · rfl
      · split
        · rfl
        · rfl
theorem letter_first {c : Nat} (h : letter c = true) : firstc c = true := by unfold firstc; rw [h]; rfl
theorem digit_first {c : Nat} (h : digit c = true) : firstc c = true := by unfold firstc; rw [h]; simp
theorem digit_not_letter {c : Nat} (h : digit c = true) : letter c = false := by
  unfold digit at h
  unfold letter
  simp at h ⊢
  omega
theorem split_headD {α : Type} {cs a b : List α} {d : α} (h : cs = a ++ b) (hb : b ≠ []) : b.headD d ∈ cs ∧ a.length < cs.length := by
  cases b with
  | nil => exact absurd rfl hb
  | cons x b => subst h; simp
theorem tok_word {l : List Nat} (h : Word l) : Tok l (.wd l) := by
  obtain ⟨c, cs, rfl, hc, hw, hl⟩ := h
  refine ⟨⟨c, cs, rfl, letter_first hc, fun a b hab hb => ?_⟩, ?_, goes_stop _⟩
  · obtain ⟨h1, h2⟩ := split_headD (d := 0) hab hb
    unfold goes
    rw [if_pos (show letter (([c] ++ a).headD 0) = true from hc), hw _ h1]
    simp at hl ⊢
    omega
  · unfold tnote
    rw [if_neg (fun z => by injection z with z _; rw [z] at hc; exact absurd hc (by decide)), if_pos (show letter ((c :: cs).headD 0) = true from hc)]
theorem tok_non : Tok [45] .non := ⟨⟨45, [], rfl, rfl, fun a b hab hb => by
    cases a with
    | nil => exact absurd hab.symm hb
    | cons _ _ => simp at hab⟩, rfl, goes_stop _⟩
theorem all_digit {cs : List Nat} (h : AllDigits cs) {c : Nat} (hc : c ∈ cs) : digit c = true := by
  have := h c hc
  unfold digit
  simp
  omega
theorem tok_nat {m : Nat} (h : m < 10 ^ 200) : Tok (dig m) (.int m) := by
  by_cases h0 : m = 0
  · subst h0
    rw [dig_zero]
    refine ⟨⟨48, [], rfl, rfl, fun a b hab hb => ?_⟩, rfl, goes_stop _⟩
    cases a with
    | nil => exact absurd hab.symm hb
    | cons _ _ => simp at hab
  · obtain ⟨d, ds, e, h1, h2⟩ := dig_head m (by omega)
    have hl := dig_len 200 m h (by decide)
    have ha := dig_all m
    have hv := dig_val m
    rw [e] at hl ha hv ⊢
    have hd : digit d = true := by unfold digit; simp; omega
    have nl := digit_not_letter hd
    refine ⟨⟨d, ds, rfl, digit_first hd, fun a b hab hb => ?_⟩, ?_, goes_stop _⟩
    · obtain ⟨m1, m2⟩ := split_headD (d := 0) hab hb
      unfold goes
      rw [if_neg (by show ¬ letter d = true; rw [nl]; exact Bool.false_ne_true), if_neg (fun z => by simp at z; omega), if_neg (fun z => by simp at z; omega), all_digit ha (List.mem_cons_of_mem _ m1)]
      have hb' : bare ([d] ++ a) = d :: a := by
        unfold bare
        show (match d :: a with | 45 :: ds => ds | ds => ds) = _
        split
        · rename_i q; injection q with q _; omega
        · rfl
      rw [hb']
      simp at hl ⊢
      omega
    · unfold tnote
      rw [if_neg (fun z => by simp at z; omega), if_neg (by show ¬ letter d = true; rw [nl]; exact Bool.false_ne_true)]
      unfold tval
      split
      · rename_i q; injection q with q _; omega
      · rw [hv]
theorem tok_neg {m : Nat} (h : m < 10 ^ 200) (h0 : m ≠ 0) : Tok (45 :: dig m) (.int (-(m : Int))) := by
  obtain ⟨d, ds, e, h1, h2⟩ := dig_head m (by omega)
  have hl := dig_len 200 m h (by decide)
  have ha := dig_all m
  have hv := dig_val m
  refine ⟨⟨45, dig m, rfl, rfl, fun a b hab hb => ?_⟩, ?_, goes_stop _⟩
  · obtain ⟨m1, m2⟩ := split_headD (d := 0) hab hb
    have hdg := all_digit ha m1
    unfold goes
    rw [if_neg (by show ¬ letter 45 = true; decide)]
    cases a with
    | nil =>
      have hb' : b = d :: ds := by rw [← e, hab]; rfl
      rw [if_pos (show [45] ++ [] = [45] from rfl), hdg, hb']
      simp
      omega
    | cons x a =>
      rw [if_neg (fun z => by simp at z), if_neg (fun z => by simp at z), hdg]
      have hb' : bare ([45] ++ x :: a) = x :: a := rfl
      rw [hb']
      simp at m2 hl ⊢
      omega
  · unfold tnote
    rw [if_neg (fun z => by rw [e] at z; simp at z), if_neg (by show ¬ letter 45 = true; decide)]
    show Nt.int (-((digitsVal (dig m) : Nat) : Int)) = _
    rw [hv]
theorem tok_int {i : Int} (h : i.natAbs < 10 ^ 200) : Tok (itx i) (.int i) := by
  unfold itx
  by_cases hi : i < 0
  · rw [if_pos hi]
    have := tok_neg h (by omega)
    rwa [show -((i.natAbs : Nat) : Int) = i by omega] at this
  · rw [if_neg hi]
    have := tok_nat h
    rwa [show ((i.natAbs : Nat) : Int) = i by omega] at this
/-! ### what is read of a note's text -/
def AftL (s : Rd) (xs : List Nt) (s' : Rd) : Prop := (s'.last = .token ∨ s'.last = .item) ∧ s'.out = s.out ∧ (flush s').cur = s.cur ++ xs
theorem flush_out (s : Rd) : (flush s).out = s.out := by unfold flush; split <;> rfl
theorem step_close {s : Rd} (hl : s.last = .token ∨ s.last = .item) (ho : s.out ≠ []) : step s 41 = some (close (flush s)) := by
  unfold step
  rw [if_neg (fun z => by rw [(goes_stop s.tok).2] at z; exact absurd z.2 Bool.false_ne_true), if_pos ⟨hl, ho, .inr rfl⟩, if_pos rfl]
theorem step_space {s : Rd} (hl : s.last = .token ∨ s.last = .item) (ho : s.out ≠ []) : step s 32 = some { flush s with last := .space } := by
  unfold step
  rw [if_neg (fun z => by rw [(goes_stop s.tok).1] at z; exact absurd z.2 Bool.false_ne_true), if_pos ⟨hl, ho, .inl rfl⟩, if_neg (by decide)]
theorem step_open {s : Rd} (hl : open_ s.last = true) (ho : s.out.length + 1 ≤ 100) : step s 40 = some { s with cur := [], out := s.cur :: s.out, last := .bracket } := by
  have n1 : ¬ s.last = .token := fun z => by rw [z] at hl; exact absurd hl (by decide)
  have n2 : ¬ s.last = .item := fun z => by rw [z] at hl; exact absurd hl (by decide)
  unfold step
  rw [if_neg (fun z => n1 z.1), if_neg (fun z => z.1.elim n1 n2), if_neg (fun z => absurd z.2 (by decide)), if_pos ⟨hl, rfl, ho⟩]
theorem read_tok {t : List Nat} {n : Nt} (h : Tok t n) {s : Rd} (hl : open_ s.last = true) : ∃ s', run s t = some s' ∧ AftL s [n] s' := by
  obtain ⟨⟨c, cs, rfl, hc, hg⟩, hn, _⟩ := h
  have e := step_first hl hc
  refine ⟨{ s with tok := c :: cs, last := .token }, ?_, .inl rfl, rfl, ?_⟩
  · show (step s c).bind _ = _
    rw [e]
    show run _ cs = _
    rw [run_go (s := { s with tok := [c], last := .token }) rfl cs hg]
    rfl
  · unfold flush
    rw [if_pos rfl]
    show s.cur ++ [tnote (c :: cs)] = _
    rw [hn]
theorem aft_step {s s2 : Rd} {xs : List Nt} (h : AftL s xs s2) (ho : s.out ≠ []) : step s2 32 = some { flush s2 with last := .space } ∧ ({ flush s2 with last := .space } : Rd).cur = s.cur ++ xs ∧ ({ flush s2 with last := .space } : Rd).out = s.out := by
  obtain ⟨h1, h2, h3⟩ := h
  exact ⟨step_space h1 (by rw [h2]; exact ho), h3, by show (flush s2).out = _; rw [flush_out, h2]⟩
theorem run_cons {s s1 : Rd} {c : Nat} {cs : List Nat} (h : step s c = some s1) : run s (c :: cs) = run s1 cs := by
  show (step s c).bind _ = _
  rw [h]
  rfl
mutual
theorem read_nt : ∀ (n : Nt) (s : Rd), Ok n → open_ s.last = true → s.out.length + depth n ≤ 100 → ∃ s', run s (wr n) = some s' ∧ AftL s [n] s'
  | .non, s, _, hl, _ => read_tok tok_non hl
  | .wd l, s, h, hl, _ => read_tok (tok_word h) hl
  | .int i, s, h, hl, _ => read_tok (tok_int h) hl
  | .tup xs, s, h, hl, hd => by
    have hd' : s.out.length + (depths xs + 1) ≤ 100 := hd
    have e1 := step_open hl (by omega)
    show ∃ s', run s (40 :: (joinL [32] (wrs xs) ++ [41])) = some s' ∧ _
    rw [run_cons e1, run_append]
    obtain ⟨s2, r2, h2⟩ := read_list xs { s with cur := [], out := s.cur :: s.out, last := .bracket } h rfl (by simp) (by simp; omega)
    rw [r2]
    rcases h2 with ⟨rfl, h2⟩ | h2
    · subst h2
      have e3 : step { s with cur := [], out := s.cur :: s.out, last := .bracket } 41 = some { s with cur := s.cur ++ [.tup []], out := s.out, last := .item } := by
        unfold step
        rw [if_neg (fun z => nomatch z.1), if_neg (fun z => z.1.elim (fun q => nomatch q) (fun q => nomatch q)), if_pos ⟨rfl, rfl⟩]
        rfl
      exact ⟨_, run_cons e3, .inr rfl, rfl, rfl⟩
    · obtain ⟨a1, a2, a3⟩ := h2
      have e3 := step_close a1 (by rw [a2]; simp)
      have ho : (flush s2).out = s.cur :: s.out := by rw [flush_out, a2]
      have ec : close (flush s2) = { flush s2 with cur := s.cur ++ [.tup (flush s2).cur], out := s.out, last := .item } := by unfold close; rw [ho]
      refine ⟨_, run_cons e3, ?_⟩
      rw [ec]
      refine ⟨.inr rfl, rfl, ?_⟩
      unfold flush
      rw [if_neg (show ¬ La.item = La.token by decide)]
      show s.cur ++ [.tup (flush s2).cur] = _
      rw [a3]
      rfl
theorem read_list : ∀ (xs : List Nt) (s : Rd), Oks xs → open_ s.last = true → s.out ≠ [] → s.out.length + depths xs ≤ 100 → ∃ s', run s (joinL [32] (wrs xs)) = some s' ∧ ((xs = [] ∧ s' = s) ∨ AftL s xs s')
  | [], s, _, _, _, _ => ⟨s, rfl, .inl ⟨rfl, rfl⟩⟩
  | [x], s, h, hl, ho, hd => by
    have hd' : s.out.length + max (depth x) 0 ≤ 100 := hd
    obtain ⟨s1, r1, h1⟩ := read_nt x s h.1 hl (by omega)
    exact ⟨s1, r1, .inr h1⟩
  | x :: y :: r, s, h, hl, ho, hd => by
    have hd' : s.out.length + max (depth x) (depths (y :: r)) ≤ 100 := hd
    obtain ⟨s1, r1, h1⟩ := read_nt x s h.1 hl (by omega)
    obtain ⟨e2, c2, o2⟩ := aft_step h1 ho
    show ∃ s', run s (wr x ++ ([32] ++ joinL [32] (wrs (y :: r)))) = some s' ∧ _
    rw [run_append, r1]
    show ∃ s', run s1 (32 :: joinL [32] (wrs (y :: r))) = some s' ∧ _
    rw [run_cons e2]
    obtain ⟨s3, r3, h3⟩ := read_list (y :: r) { flush s1 with last := .space } h.2 rfl (by rw [o2]; exact ho) (by rw [o2]; omega)
    refine ⟨s3, r3, .inr ?_⟩
    rcases h3 with ⟨q, _⟩ | ⟨a1, a2, a3⟩
    · cases q
    · refine ⟨a1, by rw [a2, o2], ?_⟩
      rw [a3, c2]
      simp
end
def start : Rd := ⟨[], [], [], .start⟩
theorem read_all {n : Nt} (h : Ok n) (hd : depth n ≤ 100) : ∃ s, run start (wr n) = some s ∧ (flush s).cur = [n] ∧ s.out = [] := by
  obtain ⟨s, r, h1, h2, h3⟩ := read_nt n start h rfl (by show 0 + depth n ≤ 100; omega)
  exact ⟨s, r, h3, h2⟩
/-! ### what holds at each sign -/
def TokOk (t : List Nat) : Prop := ∃ c cs, t = c :: cs ∧ ((letter c = true ∧ t.length ≤ 24 ∧ ∀ d ∈ cs, wordc d = true) ∨ (c = 45 ∧ AllDigits cs ∧ cs.length ≤ 200) ∨ (digit c = true ∧ AllDigits cs ∧ t.length ≤ 200))
structure Inv (i : Nat) (s : Rd) : Prop where
  tok : s.last = .token → TokOk s.tok
  len : s.tok.length ≤ 201
  cur : s.cur.length ≤ i
  rows : ∀ r ∈ s.out, r.length ≤ i
  dep : s.out.length ≤ 100
  br : s.last = .bracket → s.out ≠ []
theorem inv_start : Inv 0 start := ⟨fun z => (nomatch z), by decide, by decide, fun r hr => (nomatch hr), by decide, fun z => (nomatch z)⟩
theorem TokOk.len {t : List Nat} (h : TokOk t) : t.length ≤ 201 := by
  obtain ⟨c, cs, rfl, h | h | h⟩ := h
  · have := h.2.1; omega
  · have := h.2.2; simp; omega
  · have := h.2.2; omega
theorem digit_all {c : Nat} (h : digit c = true) : 48 ≤ c ∧ c ≤ 57 := by
  unfold digit at h
  simp at h
  exact h
theorem tok_go {t : List Nat} {c : Nat} (h : TokOk t) (hg : goes t c = true) : TokOk (t ++ [c]) := by
  obtain ⟨d, ds, rfl, h⟩ := h
  refine ⟨d, ds ++ [c], rfl, ?_⟩
  unfold goes at hg
  rcases h with ⟨h1, h2, h3⟩ | ⟨rfl, h2, h3⟩ | ⟨h1, h2, h3⟩
  · rw [if_pos (show letter ((d :: ds).headD 0) = true from h1)] at hg
    simp at hg
    refine .inl ⟨h1, by simp at h2 ⊢; omega, fun e he => ?_⟩
    rcases List.mem_append.mp he with q | q
    · exact h3 e q
    · rw [List.mem_singleton.mp q]; exact hg.1
  · rw [if_neg (by show ¬ letter 45 = true; decide)] at hg
    refine .inr (.inl ⟨rfl, ?_, ?_⟩)
    · intro e he
      rcases List.mem_append.mp he with q | q
      · exact h2 e q
      · rw [List.mem_singleton.mp q]
        split at hg
        · simp at hg; exact digit_all hg.1
        · split at hg
          · cases hg
          · simp at hg; exact digit_all hg.1
    · split at hg
      · rename_i q; simp at q; rw [q]; simp
      · split at hg
        · cases hg
        · have hb : bare (45 :: ds) = ds := rfl
          rw [hb] at hg
          simp at hg ⊢
          omega
  · have nl := digit_not_letter h1
    have hd := digit_all h1
    rw [if_neg (by show ¬ letter d = true; rw [nl]; exact Bool.false_ne_true), if_neg (fun q => by injection q with q _; omega)] at hg
    split at hg
    · cases hg
    · have hb : bare (d :: ds) = d :: ds := by
        unfold bare
        split
        · rename_i q; injection q with q _; omega
        · rfl
      rw [hb] at hg
      simp at hg
      refine .inr (.inr ⟨h1, fun e he => ?_, by simp; omega⟩)
      rcases List.mem_append.mp he with q | q
      · exact h2 e q
      · rw [List.mem_singleton.mp q]; exact digit_all hg.1
theorem tok_one {c : Nat} (h : firstc c = true) : TokOk [c] := by
  refine ⟨c, [], rfl, ?_⟩
  unfold firstc at h
  simp at h
  rcases h with (h | h) | h
  · exact .inl ⟨h, by simp, fun d hd => nomatch hd⟩
  · exact .inr (.inr ⟨h, fun d hd => (nomatch hd), by simp⟩)
  · exact .inr (.inl ⟨h, fun d hd => (nomatch hd), by simp⟩)
theorem inv_close {i : Nat} {s : Rd} (h1 : s.tok.length ≤ 201) (h2 : ∀ r ∈ s.out, r.length ≤ i) (h3 : s.out.length ≤ 100) : Inv (i + 1) (close s) := by
  unfold close
  split
  · exact ⟨fun z => (nomatch z), h1, by simp, fun r hr => (nomatch hr), by simp, fun z => (nomatch z)⟩
  · rename_i r rs he
    rw [he] at h2 h3
    refine ⟨fun z => (nomatch z), h1, ?_, fun q hq => ?_, ?_, fun z => (nomatch z)⟩
    · have := h2 r (List.mem_cons_self ..)
      simp
      omega
    · have := h2 q (List.mem_cons_of_mem _ hq)
      omega
    · simp at h3
      show rs.length ≤ 100
      omega
theorem inv_step {i : Nat} {s s' : Rd} {c : Nat} (h : Inv i s) (hs : step s c = some s') : Inv (i + 1) s' := by
  have rows' : ∀ r ∈ s.out, r.length ≤ i + 1 := fun r hr => Nat.le_succ_of_le (h.rows r hr)
  have hc := h.cur
  have hf : (flush s).cur.length ≤ i + 1 ∧ (flush s).out = s.out ∧ (flush s).tok = s.tok := by
    unfold flush
    split
    · refine ⟨by simp; omega, rfl, rfl⟩
    · exact ⟨by omega, rfl, rfl⟩
  unfold step at hs
  split at hs
  · rename_i q
    cases hs
    have := tok_go (h.tok q.1) q.2
    exact ⟨fun _ => this, this.len, by show s.cur.length ≤ i + 1; omega, rows', h.dep, fun z => by rw [show s.last = .bracket from z] at q; exact nomatch q.1⟩
  · split at hs
    · split at hs
      · cases hs
        exact inv_close (by rw [hf.2.2]; exact h.len) (by rw [hf.2.1]; exact h.rows) (by rw [hf.2.1]; exact h.dep)
      · cases hs
        exact ⟨fun z => (nomatch z), by show (flush s).tok.length ≤ 201; rw [hf.2.2]; exact h.len, hf.1, by show ∀ r ∈ (flush s).out, _; rw [hf.2.1]; exact rows', by show (flush s).out.length ≤ 100; rw [hf.2.1]; exact h.dep, fun z => (nomatch z)⟩
    · split at hs
      · cases hs
        exact inv_close h.len h.rows h.dep
      · split at hs
        · rename_i q
          cases hs
          refine ⟨fun z => (nomatch z), h.len, by simp, fun r hr => ?_, by simp; omega, fun _ => by simp⟩
          rcases List.mem_cons.mp hr with rfl | hr
          · omega
          · exact rows' r hr
        · split at hs
          · rename_i q
            cases hs
            exact ⟨fun _ => tok_one q.2, by simp, by show s.cur.length ≤ i + 1; omega, rows', h.dep, fun z => (nomatch z)⟩
          · cases hs
theorem tok_int_text {t : List Nat} (h : TokOk t) (h1 : t ≠ [45]) (h2 : letter (t.headD 0) = false) : intText? ⟨t.toArray⟩ = some (tval t) := by
  obtain ⟨c, cs, rfl, h | ⟨rfl, h3, h4⟩ | ⟨h3, h4, h5⟩⟩ := h
  · rw [show letter ((c :: cs).headD 0) = letter c from rfl, h.1] at h2
    cases h2
  · exact intText_neg (x := ⟨(45 :: cs).toArray⟩) (by simp) h3 (fun z => h1 (by rw [z])) (by show (45 :: cs).toArray.size ≤ 4300; simp; omega)
  · have hd := digit_all h3
    have e := intText_digits (x := ⟨(c :: cs).toArray⟩) (by
      intro d hd'
      simp at hd'
      rcases hd' with rfl | hd'
      · exact hd
      · exact h4 d hd') (by simp) (by show (c :: cs).toArray.size ≤ 4300; simp at h5 ⊢; omega)
    rw [e]
    unfold tval
    split
    · rename_i q; injection q with q _; omega
    · simp
end GN

/-! GK: what the reader has read is the text of what it holds (pure). -/
namespace GN
open PySem PySem.NumText
/-! ### numerals back -/
theorem val_snoc (cs : List Nat) (c : Nat) : digitsVal (cs ++ [c]) = digitsVal cs * 10 + (c - 48) := by
  unfold digitsVal
  rw [List.foldl_append]
  rfl
theorem snocInd {α : Type} {P : List α → Prop} (h0 : P []) (hs : ∀ l a, P l → P (l ++ [a])) (l : List α) : P l := by
  have h : ∀ l : List α, P l.reverse := by
    intro l
    induction l with
    | nil => exact h0
    | cons a l ih => rw [List.reverse_cons]; exact hs _ _ ih
  have := h l.reverse
  rwa [List.reverse_reverse] at this
theorem val_ge : ∀ (cs : List Nat) (d : Nat), 49 ≤ d → 1 ≤ digitsVal (d :: cs) := by
  refine snocInd (fun d h => ?_) fun cs c ih d h => ?_
  · show 1 ≤ 0 * 10 + (d - 48); omega
  · have := ih d h
    rw [← List.cons_append, val_snoc]
    omega
theorem dig_back : ∀ (cs : List Nat) (d : Nat), 49 ≤ d → AllDigits (d :: cs) → dig (digitsVal (d :: cs)) = d :: cs := by
  refine snocInd (fun d h ha => ?_) fun cs c ih d h ha => ?_
  · have := ha d (by simp)
    have e : digitsVal [d] = d - 48 := by show 0 * 10 + (d - 48) = _; omega
    rw [e, dig_small (by omega)]
    simp
    omega
  · have hc := ha c (by simp)
    have ha' : AllDigits (d :: cs) := fun x hx => ha x (by simp at hx ⊢; rcases hx with h | h <;> simp [h])
    have h1 := val_ge cs d h
    rw [← List.cons_append, val_snoc, dig_big (by omega), show (digitsVal (d :: cs) * 10 + (c - 48)) / 10 = digitsVal (d :: cs) by omega, ih d h ha', show 48 + (digitsVal (d :: cs) * 10 + (c - 48)) % 10 = c by omega]
/-- a token as the reader lets it grow -/
def Can (t : List Nat) : Prop := t = [45] ∨ t = [48] ∨ (∃ c cs, t = c :: cs ∧ letter c = true) ∨ (∃ d ds, t = d :: ds ∧ 49 ≤ d ∧ AllDigits (d :: ds)) ∨ ∃ d ds, t = 45 :: d :: ds ∧ 49 ≤ d ∧ AllDigits (d :: ds)
theorem can_wr {t : List Nat} (h : Can t) : wr (tnote t) = t := by
  rcases h with rfl | rfl | ⟨c, cs, rfl, hc⟩ | ⟨d, ds, rfl, hd, ha⟩ | ⟨d, ds, rfl, hd, ha⟩
  · rfl
  · show itx (tval [48]) = [48]
    show itx 0 = [48]
    unfold itx
    rw [if_neg (by decide)]
    exact dig_zero
  · unfold tnote
    rw [if_neg (fun z => by injection z with z _; rw [z] at hc; exact absurd hc (by decide)), if_pos (show letter ((c :: cs).headD 0) = true from hc)]
    rfl
  · have hd2 := ha d (by simp)
    have nl : letter d = false := by unfold letter; simp; omega
    unfold tnote
    rw [if_neg (fun z => by injection z with z _; omega), if_neg (by show ¬ letter d = true; rw [nl]; exact Bool.false_ne_true)]
    have e : tval (d :: ds) = ((digitsVal (d :: ds) : Nat) : Int) := by
      unfold tval
      split
      · rename_i q; injection q with q _; omega
      · rfl
    rw [e]
    show itx _ = _
    unfold itx
    rw [if_neg (by omega), Int.natAbs_natCast, dig_back ds d hd ha]
  · have h1 := val_ge ds d hd
    unfold tnote
    rw [if_neg (fun z => by simp at z), if_neg (by show ¬ letter 45 = true; decide)]
    show itx (-((digitsVal (d :: ds) : Nat) : Int)) = _
    unfold itx
    rw [if_pos (by omega), Int.natAbs_neg, Int.natAbs_natCast, dig_back ds d hd ha]
theorem can_go {t : List Nat} {c : Nat} (h : Can t) (hg : goes t c = true) : Can (t ++ [c]) := by
  unfold goes at hg
  rcases h with rfl | rfl | ⟨d, cs, rfl, hc⟩ | ⟨d, ds, rfl, hd, ha⟩ | ⟨d, ds, rfl, hd, ha⟩
  · rw [if_neg (by decide), if_pos rfl] at hg
    simp at hg
    have := digit_all hg.1
    refine .inr (.inr (.inr (.inr ⟨c, [], rfl, by omega, fun x hx => ?_⟩)))
    rw [List.mem_singleton.mp hx]; exact this
  · rw [if_neg (by decide), if_neg (by decide), if_pos rfl] at hg
    cases hg
  · exact .inr (.inr (.inl ⟨d, cs ++ [c], rfl, hc⟩))
  · have hd2 := ha d (by simp)
    have nl : letter d = false := by unfold letter; simp; omega
    rw [if_neg (by show ¬ letter d = true; rw [nl]; exact Bool.false_ne_true), if_neg (fun z => by injection z with z _; omega), if_neg (fun z => by injection z with z _; omega)] at hg
    simp at hg
    have := digit_all hg.1
    refine .inr (.inr (.inr (.inl ⟨d, ds ++ [c], rfl, hd, fun x hx => ?_⟩)))
    rw [← List.cons_append] at hx
    rcases List.mem_append.mp hx with q | q
    · exact ha x q
    · rw [List.mem_singleton.mp q]; exact this
  · rw [if_neg (by show ¬ letter 45 = true; decide), if_neg (fun z => by simp at z), if_neg (fun z => by simp at z)] at hg
    simp at hg
    have := digit_all hg.1
    refine .inr (.inr (.inr (.inr ⟨d, ds ++ [c], rfl, hd, fun x hx => ?_⟩)))
    rw [← List.cons_append] at hx
    rcases List.mem_append.mp hx with q | q
    · exact ha x q
    · rw [List.mem_singleton.mp q]; exact this
theorem can_one {c : Nat} (h : firstc c = true) : Can [c] := by
  unfold firstc at h
  simp at h
  rcases h with (h | h) | h
  · exact .inr (.inr (.inl ⟨c, [], rfl, h⟩))
  · have := digit_all h
    by_cases h0 : c = 48
    · exact .inr (.inl (by rw [h0]))
    · exact .inr (.inr (.inr (.inl ⟨c, [], rfl, by omega, fun x hx => by rw [List.mem_singleton.mp hx]; exact this⟩)))
  · exact .inl (by rw [h])
theorem val_lt2 : ∀ (cs : List Nat) (a : Nat), AllDigits cs → cs.foldl (fun acc c => acc * 10 + (c - 48)) a < (a + 1) * 10 ^ cs.length
  | [], a, _ => by simp
  | d :: cs, a, h => by
    have hd := h d (List.mem_cons_self ..)
    have := val_lt2 cs (a * 10 + (d - 48)) (fun x hx => h x (List.mem_cons_of_mem _ hx))
    rw [List.foldl_cons, List.length_cons, Nat.pow_succ]
    refine Nat.lt_of_lt_of_le this ?_
    rw [Nat.mul_comm (10 ^ cs.length) 10, ← Nat.mul_assoc]
    exact Nat.mul_le_mul_right _ (by omega)
theorem digits_lt2 {cs : List Nat} (h : AllDigits cs) : digitsVal cs < 10 ^ cs.length := by
  have := val_lt2 cs 0 h
  unfold digitsVal
  simpa using this
theorem tok_ok {t : List Nat} (h : TokOk t) : Ok (tnote t) := by
  obtain ⟨c, cs, rfl, ⟨h1, h2, h3⟩ | ⟨rfl, h2, h3⟩ | ⟨h1, h2, h3⟩⟩ := h
  · unfold tnote
    rw [if_neg (fun z => by injection z with z _; rw [z] at h1; exact absurd h1 (by decide)), if_pos (show letter ((c :: cs).headD 0) = true from h1)]
    exact ⟨c, cs, rfl, h1, h3, h2⟩
  · unfold tnote
    split
    · trivial
    · rw [if_neg (by show ¬ letter 45 = true; decide)]
      show (tval (45 :: cs)).natAbs < 10 ^ 200
      show (-((digitsVal cs : Nat) : Int)).natAbs < 10 ^ 200
      rw [Int.natAbs_neg, Int.natAbs_natCast]
      exact Nat.lt_of_lt_of_le (digits_lt2 h2) (Nat.pow_le_pow_right (by decide) h3)
  · have nl := digit_not_letter h1
    have hd := digit_all h1
    unfold tnote
    rw [if_neg (fun z => by injection z with z _; omega), if_neg (by show ¬ letter c = true; rw [nl]; exact Bool.false_ne_true)]
    have e : tval (c :: cs) = ((digitsVal (c :: cs) : Nat) : Int) := by
      unfold tval
      split
      · rename_i q; injection q with q _; omega
      · rfl
    show (tval (c :: cs)).natAbs < 10 ^ 200
    rw [e, Int.natAbs_natCast]
    refine Nat.lt_of_lt_of_le (digits_lt2 (fun x hx => ?_)) (Nat.pow_le_pow_right (by decide) h3)
    rcases List.mem_cons.mp hx with rfl | hx
    · exact hd
    · exact h2 x hx
/-! ### what was read -/
/-- the items of a row, each with a space behind it -/
def sp (xs : List Nt) : List Nat := (xs.map fun x => wr x ++ [32]).flatten
/-- the rows around, the innermost first, each with its opening bracket behind it -/
def pre : List (List Nt) → List Nat
  | [] => []
  | r :: rs => pre rs ++ sp r ++ [40]
def body (s : Rd) : List Nat := match s.last with
  | .start => []
  | .bracket => []
  | .space => sp s.cur
  | .token => sp s.cur ++ s.tok
  | .item => joinL [32] (wrs s.cur)
def Deep : List (List Nt) → Prop
  | [] => True
  | r :: rs => depths r + rs.length ≤ 100 ∧ Deep rs
structure Rend (s : Rd) (l : List Nat) : Prop where
  txt : l = pre s.out ++ body s
  can : s.last = .token → Can s.tok
  bot : s.out = [] → s.last ≠ .item → s.cur = []
  one : s.out = [] → s.last = .item → ∃ n, s.cur = [n]
  sta : s.last = .start → s.out = []
  spa : s.last = .space → s.out ≠ []
  bra : s.last = .bracket → s.out ≠ [] ∧ s.cur = []
  ite : s.last = .item → s.cur ≠ []
  low : ∀ rs r, s.out = rs ++ [r] → r = []
  oks : Oks s.cur ∧ ∀ r ∈ s.out, Oks r
  dpc : depths s.cur + s.out.length ≤ 100
  dpo : Deep s.out
theorem rend_start : Rend start [] := ⟨rfl, fun z => (nomatch z), fun _ _ => rfl, fun _ z => (nomatch z), fun _ => rfl, fun z => (nomatch z), fun z => (nomatch z), fun z => (nomatch z), fun rs r h => (by simp [start] at h), ⟨trivial, fun r hr => (nomatch hr)⟩, by decide, trivial⟩
theorem wrs_app2 : ∀ (xs ys : List Nt), wrs (xs ++ ys) = wrs xs ++ wrs ys
  | [], _ => rfl
  | x :: xs, ys => by show wr x :: wrs (xs ++ ys) = wr x :: (wrs xs ++ wrs ys); rw [wrs_app2]
theorem join_snoc : ∀ (xs : List Nt) (n : Nt), joinL [32] (wrs (xs ++ [n])) = sp xs ++ wr n
  | [], n => rfl
  | [x], n => by show wr x ++ ([32] ++ wr n) = (wr x ++ [32]) ++ [] ++ wr n; simp
  | x :: y :: r, n => by
    have ih := join_snoc (y :: r) n
    show wr x ++ ([32] ++ joinL [32] (wrs (y :: r ++ [n]))) = sp (x :: y :: r) ++ wr n
    rw [ih]
    unfold sp
    rw [List.map_cons, List.flatten_cons]
    simp
theorem sp_snoc (xs : List Nt) (n : Nt) : sp (xs ++ [n]) = sp xs ++ wr n ++ [32] := by
  unfold sp
  rw [List.map_append, List.flatten_append]
  simp
theorem sp_join {xs : List Nt} (h : xs ≠ []) : sp xs = joinL [32] (wrs xs) ++ [32] := by
  obtain ⟨ys, n, rfl⟩ : ∃ ys n, xs = ys ++ [n] := ⟨xs.dropLast, xs.getLast h, (List.dropLast_concat_getLast h).symm⟩
  rw [sp_snoc, join_snoc]
theorem oks_app2 : ∀ {xs ys : List Nt}, Oks xs → Oks ys → Oks (xs ++ ys)
  | [], ys, _, h => h
  | x :: xs, ys, h1, h2 => ⟨h1.1, oks_app2 h1.2 h2⟩
theorem depths_app2 : ∀ {xs ys : List Nt}, depths (xs ++ ys) = max (depths xs) (depths ys)
  | [], ys => by show depths ys = max 0 (depths ys); omega
  | x :: xs, ys => by show max (depth x) (depths (xs ++ ys)) = max (max (depth x) (depths xs)) (depths ys); rw [depths_app2]; omega
theorem tnote_depth (t : List Nat) : depth (tnote t) = 0 := by
  unfold tnote
  split
  · rfl
  · split <;> rfl
/-- a token or an item at the end of the row: the row's text -/
theorem rend_flush {s : Rd} {l : List Nat} {i : Nat} (h : Rend s l) (hi : Inv i s) (hl : s.last = .token ∨ s.last = .item) : l = pre s.out ++ joinL [32] (wrs (flush s).cur) ∧ (flush s).cur ≠ [] ∧ Oks (flush s).cur ∧ depths (flush s).cur + s.out.length ≤ 100 := by
  have hd := h.dpc
  rcases hl with hl | hl
  · have e : flush s = { s with cur := s.cur ++ [tnote s.tok] } := by unfold flush; rw [if_pos hl]
    rw [e]
    refine ⟨?_, by simp, oks_app2 h.oks.1 ⟨tok_ok (hi.tok hl), trivial⟩, ?_⟩
    · show l = pre s.out ++ joinL [32] (wrs (s.cur ++ [tnote s.tok]))
      rw [join_snoc, can_wr (h.can hl), h.txt]
      unfold body
      rw [hl]
    · show depths (s.cur ++ [tnote s.tok]) + _ ≤ 100
      rw [depths_app2, show depths [tnote s.tok] = max (depth (tnote s.tok)) 0 from rfl, tnote_depth]
      omega
  · have e : flush s = s := by unfold flush; rw [if_neg (by rw [hl]; decide)]
    rw [e]
    refine ⟨?_, h.ite hl, h.oks.1, hd⟩
    rw [h.txt]
    unfold body
    rw [hl]
theorem rend_open {s : Rd} {l : List Nat} (h : Rend s l) (hl : open_ s.last = true) : l = pre s.out ++ sp s.cur ∧ (s.out = [] → s.cur = []) := by
  have ht := h.txt
  unfold body at ht
  cases hla : s.last with
  | start =>
    rw [hla] at ht
    have h0 := h.bot (h.sta hla) (by rw [hla]; decide)
    exact ⟨by rw [h0]; exact ht, fun _ => h0⟩
  | bracket =>
    rw [hla] at ht
    have h0 := (h.bra hla).2
    exact ⟨by rw [h0]; exact ht, fun _ => h0⟩
  | space =>
    rw [hla] at ht
    exact ⟨ht, fun z => absurd z (h.spa hla)⟩
  | token => rw [hla] at hl; exact absurd hl (by decide)
  | item => rw [hla] at hl; exact absurd hl (by decide)
theorem rend_close {s : Rd} {l : List Nat} (ho : s.out ≠ []) (ht : l = pre s.out ++ joinL [32] (wrs s.cur)) (low : ∀ rs r, s.out = rs ++ [r] → r = []) (ok : Oks s.cur) (oko : ∀ r ∈ s.out, Oks r) (hd : depths s.cur + s.out.length ≤ 100) (hdo : Deep s.out) : Rend (close s) (l ++ [41]) := by
  obtain ⟨r, rs, he⟩ : ∃ r rs, s.out = r :: rs := by
    cases h : s.out with
    | nil => exact absurd h ho
    | cons r rs => exact ⟨r, rs, rfl⟩
  have ec : close s = { s with cur := r ++ [.tup s.cur], out := rs, last := .item } := by unfold close; rw [he]
  rw [he] at ht low oko hd hdo
  rw [ec]
  have r0 : rs = [] → r = [] := fun z => low [] r (by rw [z]; rfl)
  refine ⟨?_, fun z => (nomatch z), fun _ z => absurd rfl z, fun z _ => ⟨.tup s.cur, by show r ++ _ = _; rw [r0 z]; rfl⟩, fun z => (nomatch z), fun z => (nomatch z), fun z => (nomatch z), fun _ => by simp, fun rs' r' h => low (r :: rs') r' (by rw [show rs = rs' ++ [r'] from h]; rfl), ⟨oks_app2 (oko r (by simp)) ⟨ok, trivial⟩, fun x hx => oko x (by simp [show x ∈ rs from hx])⟩, ?_, hdo.2⟩
  · show l ++ [41] = pre rs ++ joinL [32] (wrs (r ++ [.tup s.cur]))
    rw [join_snoc, ht]
    show pre rs ++ sp r ++ [40] ++ joinL [32] (wrs s.cur) ++ [41] = pre rs ++ (sp r ++ (40 :: (joinL [32] (wrs s.cur) ++ [41])))
    simp
  · show depths (r ++ [.tup s.cur]) + rs.length ≤ 100
    rw [depths_app2, show depths [Nt.tup s.cur] = max (depths s.cur + 1) 0 from rfl]
    have h1 := hdo.1
    simp at hd
    omega
theorem rend_step {s s' : Rd} {c i : Nat} {l : List Nat} (h : Rend s l) (hi : Inv i s) (hs : step s c = some s') : Rend s' (l ++ [c]) := by
  unfold step at hs
  split at hs
  · rename_i q
    cases hs
    refine ⟨?_, fun _ => can_go (h.can q.1) q.2, h.bot, h.one, h.sta, h.spa, h.bra, h.ite, h.low, h.oks, h.dpc, h.dpo⟩
    have ht := h.txt
    unfold body at ht ⊢
    rw [q.1] at ht
    show l ++ [c] = pre s.out ++ (match s.last with | .start => [] | .bracket => [] | .space => sp s.cur | .token => sp s.cur ++ (s.tok ++ [c]) | .item => joinL [32] (wrs s.cur))
    rw [q.1, ht]
    simp
  · split at hs
    · rename_i q
      obtain ⟨h1, h2, h3, h4⟩ := rend_flush h hi q.1
      split at hs
      · rename_i e
        subst e
        cases hs
        exact rend_close (by rw [flush_out]; exact q.2.1) (by rw [flush_out]; exact h1) (by rw [flush_out]; exact h.low) h3 (by rw [flush_out]; exact h.oks.2) (by rw [flush_out]; exact h4) (by rw [flush_out]; exact h.dpo)
      · rename_i e
        have e32 : c = 32 := q.2.2.resolve_right e
        subst e32
        cases hs
        have fo : (flush s).out = s.out := flush_out s
        refine ⟨?_, fun z => (nomatch z), fun z _ => absurd (fo.symm.trans z) q.2.1, fun _ z => (nomatch z), fun z => (nomatch z), fun _ z => q.2.1 (fo.symm.trans z), fun z => (nomatch z), fun z => (nomatch z), fun rs r z => h.low rs r (fo.symm.trans z), ⟨h3, fun r hr => h.oks.2 r (by rw [← fo]; exact hr)⟩, ?_, ?_⟩
        · show l ++ [32] = pre (flush s).out ++ sp (flush s).cur
          rw [fo, sp_join h2, h1]
          simp
        · show depths (flush s).cur + (flush s).out.length ≤ 100
          rw [fo]; exact h4
        · show Deep (flush s).out
          rw [fo]; exact h.dpo
    · split at hs
      · rename_i q
        obtain ⟨e1, e2⟩ := q
        subst e2
        cases hs
        obtain ⟨b1, b2⟩ := h.bra e1
        refine rend_close b1 ?_ h.low h.oks.1 h.oks.2 h.dpc h.dpo
        rw [b2, h.txt]
        unfold body
        rw [e1]
        rfl
      · split at hs
        · rename_i q
          obtain ⟨e1, e2, e3⟩ := q
          subst e2
          cases hs
          obtain ⟨h1, h2⟩ := rend_open h e1
          refine ⟨?_, fun z => (nomatch z), fun z => (nomatch z), fun z => (nomatch z), fun z => (nomatch z), fun z => (nomatch z), fun _ => ⟨by simp, rfl⟩, fun z => (nomatch z), ?_, ⟨trivial, ?_⟩, ?_, ⟨h.dpc, h.dpo⟩⟩
          · show l ++ [40] = pre (s.cur :: s.out) ++ []
            rw [h1]
            show _ = pre s.out ++ sp s.cur ++ [40] ++ []
            simp
          · intro rs r z
            have z : s.cur :: s.out = rs ++ [r] := z
            cases rs with
            | nil =>
              injection z with z1 z2
              rw [← z1]; exact h2 z2
            | cons x rs =>
              injection z with z1 z2
              exact h.low rs r z2
          · intro r hr
            rcases List.mem_cons.mp hr with rfl | hr
            · exact h.oks.1
            · exact h.oks.2 r hr
          · show 0 + (s.cur :: s.out).length ≤ 100
            simp; omega
        · split at hs
          · rename_i q
            obtain ⟨e1, e2⟩ := q
            cases hs
            obtain ⟨h1, h2⟩ := rend_open h e1
            refine ⟨?_, fun _ => can_one e2, fun z _ => h2 z, fun _ z => (nomatch z), fun z => (nomatch z), fun z => (nomatch z), fun z => (nomatch z), fun z => (nomatch z), h.low, h.oks, h.dpc, h.dpo⟩
            show l ++ [c] = pre s.out ++ (sp s.cur ++ [c])
            rw [h1]
            simp
          · cases hs
theorem rend_run : ∀ (l l0 : List Nat) (s s' : Rd) (i : Nat), Rend s l0 → Inv i s → run s l = some s' → Rend s' (l0 ++ l) ∧ Inv (i + l.length) s'
  | [], l0, s, s', i, h, hi, hr => by
    obtain rfl := Option.some.inj hr
    rw [List.append_nil]
    exact ⟨h, hi⟩
  | c :: cs, l0, s, s', i, h, hi, hr => by
    cases hs : step s c with
    | none =>
      have hr : (step s c).bind (fun s' => run s' cs) = some s' := hr
      rw [hs] at hr
      cases hr
    | some s1 =>
      rw [run_cons hs] at hr
      have := rend_run cs (l0 ++ [c]) s1 s' (i + 1) (rend_step h hi hs) (inv_step hi hs) hr
      rw [List.append_assoc] at this
      exact ⟨this.1, by rw [List.length_cons, show i + (cs.length + 1) = i + 1 + cs.length by omega]; exact this.2⟩
/-- what is read is the text of the note -/
theorem read_back {l : List Nat} {s : Rd} {n : Nt} {r : List Nt} (hr : run start l = some s) (ho : s.out = []) (hc : (flush s).cur = n :: r) : l = wr n ∧ Ok n ∧ depth n ≤ 100 := by
  obtain ⟨h, hi⟩ := rend_run l [] start s 0 rend_start inv_start hr
  rw [List.nil_append] at h
  have key : (s.last = .token ∨ s.last = .item) → (∃ m, (flush s).cur = [m]) → l = wr n ∧ Ok n ∧ depth n ≤ 100 := by
    rintro hl ⟨m, hm⟩
    obtain ⟨h1, _, h3, h4⟩ := rend_flush h hi hl
    rw [hc] at hm
    injection hm with e1 e2
    subst e1
    subst e2
    rw [hc] at h1 h3 h4
    rw [ho] at h1 h4
    refine ⟨h1, h3.1, ?_⟩
    have : depths [n] = max (depth n) 0 := rfl
    simp at h4
    omega
  cases hla : s.last with
  | token =>
    refine key (.inl hla) ⟨tnote s.tok, ?_⟩
    unfold flush
    rw [if_pos hla]
    show s.cur ++ _ = _
    rw [h.bot ho (by rw [hla]; decide)]
    rfl
  | item =>
    obtain ⟨m, hm⟩ := h.one ho hla
    refine key (.inr hla) ⟨m, ?_⟩
    unfold flush
    rw [if_neg (by rw [hla]; decide), hm]
  | start =>
    have : (flush s).cur = s.cur := by unfold flush; rw [if_neg (by rw [hla]; decide)]
    rw [this, h.bot ho (by rw [hla]; decide)] at hc
    cases hc
  | space => exact absurd ho (h.spa hla)
  | bracket => exact absurd ho (h.bra hla).1
end GN

/-! GQ: a second machine that only tells where a text goes wrong (pure). -/
namespace GN
open PySem PySem.NumText
/-- the mode to come: the mode, the signs in it, the depth, the sign -/
def nxt (m n d b : Nat) : Int :=
  if m < 2 then
    if b = 40 ∧ d < 100 then 1 else if b = 41 ∧ m = 1 then 6 else if b = 45 then 2 else if b = 48 then 3 else if 49 ≤ b ∧ b ≤ 57 then 4 else if letter b = true then 5 else -1
  else if 0 < d ∧ (b = 32 ∨ b = 41) then (if b = 41 then 6 else 0)
  else if (m = 2 ∧ 49 ≤ b ∧ b ≤ 57) ∨ (m = 4 ∧ n < 200 ∧ digit b = true) then 4
  else if m = 5 ∧ n < 24 ∧ wordc b = true then 5 else -1
def tm (t : List Nat) : Nat := if t = [45] then 2 else if t = [48] then 3 else if letter (t.headD 0) then 5 else 4
def md (s : Rd) : Nat := match s.last with
  | .start => 0
  | .space => 0
  | .bracket => 1
  | .item => 6
  | .token => tm s.tok
structure Sim (s : Rd) (m n d : Nat) : Prop where
  hm : m = md s
  hd : d = s.out.length
  n4 : m = 4 → n = (bare s.tok).length
  n5 : m = 5 → n = s.tok.length
theorem sim_start : Sim start 0 0 0 := ⟨rfl, rfl, fun z => (nomatch z), fun z => (nomatch z)⟩
theorem bare_not {d : Nat} {ds : List Nat} (h : d ≠ 45) : bare (d :: ds) = d :: ds := by
  unfold bare
  split
  · rename_i q; injection q with q _; exact absurd q h
  · rfl
theorem letter_range {b : Nat} : letter b = true ↔ 97 ≤ b ∧ b ≤ 122 := by unfold letter; simp
theorem digit_range {b : Nat} : digit b = true ↔ 48 ≤ b ∧ b ≤ 57 := by unfold digit; simp
theorem wordc_range {b : Nat} : wordc b = true ↔ (97 ≤ b ∧ b ≤ 122) ∨ (48 ≤ b ∧ b ≤ 57) ∨ b = 45 ∨ b = 58 := by
  unfold wordc letter digit
  simp [or_assoc]
theorem firstc_range {b : Nat} : firstc b = true ↔ (97 ≤ b ∧ b ≤ 122) ∨ (48 ≤ b ∧ b ≤ 57) ∨ b = 45 := by
  unfold firstc letter digit
  simp [or_assoc]
/-- a token and one sign more -/
theorem tok_goes {t : List Nat} {n b : Nat} (h : Can t) (n4 : tm t = 4 → n = (bare t).length) (n5 : tm t = 5 → n = t.length) :
    2 ≤ tm t ∧ (goes t b = true ↔ ((tm t = 2 ∧ 49 ≤ b ∧ b ≤ 57) ∨ (tm t = 4 ∧ n < 200 ∧ digit b = true) ∨ (tm t = 5 ∧ n < 24 ∧ wordc b = true))) ∧
    (goes t b = true → (tm t = 5 → tm (t ++ [b]) = 5 ∧ (t ++ [b]).length = 1 + n) ∧ (tm t ≠ 5 → tm (t ++ [b]) = 4 ∧ (bare (t ++ [b])).length = 1 + (if tm t = 4 then n else 0))) := by
  rcases h with rfl | rfl | ⟨c, cs, rfl, hc⟩ | ⟨d, ds, rfl, h1, ha⟩ | ⟨d, ds, rfl, h1, ha⟩
  · have e : tm [45] = 2 := rfl
    rw [e]
    have g : goes [45] b = true ↔ 49 ≤ b ∧ b ≤ 57 := by
      unfold goes
      rw [if_neg (by decide), if_pos rfl]
      simp [digit]
      omega
    refine ⟨by decide, by rw [g]; simp, fun hg => ⟨fun z => (nomatch z), fun _ => ?_⟩⟩
    have := g.mp hg
    refine ⟨?_, rfl⟩
    show tm [45, b] = 4
    unfold tm
    rw [if_neg (by simp), if_neg (by simp), if_neg (show ¬ letter ([45, b].headD 0) = true from (show ¬ letter 45 = true by decide))]
  · have e : tm [48] = 3 := rfl
    rw [e]
    have g : goes [48] b = false := by
      unfold goes
      rw [if_neg (by decide), if_neg (by decide), if_pos rfl]
    rw [g]
    exact ⟨by decide, by simp, fun z => (nomatch z)⟩
  · have hr := letter_range.mp hc
    have e : ∀ xs, tm (c :: xs) = 5 := fun xs => by
      unfold tm
      rw [if_neg (by intro z; injection z with z _; omega), if_neg (by intro z; injection z with z _; omega), if_pos (show letter ((c :: xs).headD 0) = true from hc)]
    rw [List.cons_append, e, e]
    have hn := n5 (e cs)
    refine ⟨by decide, ?_, fun _ => ⟨fun _ => ⟨rfl, ?_⟩, fun z => absurd rfl z⟩⟩
    · unfold goes
      rw [if_pos (show letter ((c :: cs).headD 0) = true from hc), ← hn]
      simp [and_comm]
    · rw [hn]; simp; omega
  · have hd := ha d (List.mem_cons_self)
    have nl : ¬ letter d = true := by rw [letter_range]; omega
    have e : ∀ xs, tm (d :: xs) = 4 := fun xs => by
      unfold tm
      rw [if_neg (by intro z; injection z with z _; omega), if_neg (by intro z; injection z with z _; omega), if_neg (show ¬ letter ((d :: xs).headD 0) = true from nl)]
    rw [List.cons_append, e, e]
    have hn := n4 (e ds)
    rw [bare_not (by omega)] at hn
    refine ⟨by decide, ?_, fun _ => ⟨fun z => (nomatch z), fun _ => ⟨rfl, ?_⟩⟩⟩
    · unfold goes
      rw [if_neg (show ¬ letter ((d :: ds).headD 0) = true from nl), if_neg (by intro z; injection z with z _; omega), if_neg (by intro z; injection z with z _; omega), bare_not (by omega), ← hn]
      simp [and_comm]
    · rw [bare_not (by omega), if_pos rfl, hn]; simp; omega
  · have e : ∀ x xs, tm (45 :: x :: xs) = 4 := fun x xs => by
      unfold tm
      rw [if_neg (by simp), if_neg (by simp), if_neg (show ¬ letter ((45 :: x :: xs).headD 0) = true from by show ¬ letter 45 = true; decide)]
    rw [List.cons_append, List.cons_append, e, e]
    have hn : n = (d :: ds).length := n4 (e d ds)
    refine ⟨by decide, ?_, fun _ => ⟨fun z => (nomatch z), fun _ => ⟨rfl, ?_⟩⟩⟩
    · unfold goes
      rw [if_neg (show ¬ letter ((45 :: d :: ds).headD 0) = true from by show ¬ letter 45 = true; decide), if_neg (by simp), if_neg (by simp)]
      show (digit b && decide ((d :: ds).length < 200)) = true ↔ _
      rw [← hn]
      simp [and_comm]
    · rw [if_pos rfl, hn]
      show (d :: (ds ++ [b])).length = _
      simp; omega
def bit (p : Prop) [Decidable p] : Int := if p then 1 else 0
theorem close_out {s : Rd} : (close s).out = s.out.tail ∧ (close s).last = .item := by
  unfold close
  split
  · rename_i q; rw [q]; exact ⟨rfl, rfl⟩
  · rename_i q; rw [q]; exact ⟨rfl, rfl⟩
theorem flush_outQ {s : Rd} : (flush s).out = s.out := by unfold flush; split <;> rfl
theorem firsts {b : Nat} (h : firstc b = true) : tm [b] = (if b = 45 then 2 else if b = 48 then 3 else if 49 ≤ b ∧ b ≤ 57 then 4 else 5) ∧ (bare [b]).length ≤ 1 ∧ (b ≠ 45 → (bare [b]).length = 1) := by
  rw [firstc_range] at h
  refine ⟨?_, ?_, ?_⟩
  · unfold tm
    by_cases h1 : b = 45
    · subst h1; rfl
    · rw [if_neg (by simp [h1]), if_neg h1]
      by_cases h2 : b = 48
      · subst h2; rfl
      · rw [if_neg (by simp [h2]), if_neg h2]
        by_cases h3 : 49 ≤ b ∧ b ≤ 57
        · rw [if_pos h3, if_neg (by show ¬ letter b = true; rw [letter_range]; omega)]
        · rw [if_neg h3, if_pos (by show letter b = true; rw [letter_range]; omega)]
  · by_cases h1 : b = 45
    · subst h1; decide
    · rw [bare_not h1]; exact Nat.le_refl _
  · intro h1
    rw [bare_not h1]; rfl
theorem step_item {s : Rd} {b : Nat} (h : s.last = .item) : step s b = if s.out ≠ [] ∧ (b = 32 ∨ b = 41) then some (if b = 41 then close s else { s with last := .space }) else none := by
  unfold step
  rw [if_neg (by rw [h]; exact fun z => nomatch z.1)]
  by_cases hb : s.out ≠ [] ∧ (b = 32 ∨ b = 41)
  · rw [if_pos ⟨.inr h, hb⟩, if_pos hb]
    have hf : flush s = s := by unfold flush; rw [if_neg (by rw [h]; decide)]
    rw [hf]
  · rw [if_neg (fun z => hb z.2), if_neg (by rw [h]; exact fun z => nomatch z.1), if_neg (by rw [h]; exact fun z => nomatch z.1), if_neg (by rw [h]; exact fun z => nomatch z.1), if_neg hb]
theorem step_token {s : Rd} {b : Nat} (h : s.last = .token) : step s b = if goes s.tok b = true then some { s with tok := s.tok ++ [b] } else if s.out ≠ [] ∧ (b = 32 ∨ b = 41) then some (if b = 41 then close (flush s) else { flush s with last := .space }) else none := by
  unfold step
  by_cases hg : goes s.tok b = true
  · rw [if_pos ⟨h, hg⟩, if_pos hg]
  · rw [if_neg (fun z => hg z.2), if_neg hg]
    by_cases hb : s.out ≠ [] ∧ (b = 32 ∨ b = 41)
    · rw [if_pos ⟨.inl h, hb⟩, if_pos hb]
    · rw [if_neg (fun z => hb z.2), if_neg (by rw [h]; exact fun z => nomatch z.1), if_neg (by rw [h]; exact fun z => nomatch z.1), if_neg (by rw [h]; exact fun z => nomatch z.1), if_neg hb]
theorem nxt_hi {m n d b : Nat} (h : 2 ≤ m) : nxt m n d b = if 0 < d ∧ (b = 32 ∨ b = 41) then (if b = 41 then 6 else 0) else if (m = 2 ∧ 49 ≤ b ∧ b ≤ 57) ∨ (m = 4 ∧ n < 200 ∧ digit b = true) then 4 else if m = 5 ∧ n < 24 ∧ wordc b = true then 5 else -1 := by
  unfold nxt
  rw [if_neg (show ¬ m < 2 by omega)]
theorem step_openQ {s : Rd} {b : Nat} (h : open_ s.last = true) : step s b = if s.last = .bracket ∧ b = 41 then some (close s) else if b = 40 ∧ s.out.length + 1 ≤ 100 then some { s with cur := [], out := s.cur :: s.out, last := .bracket } else if firstc b = true then some { s with tok := [b], last := .token } else none := by
  have n1 : ¬ s.last = .token := fun z => by rw [z] at h; exact absurd h (by decide)
  have n2 : ¬ s.last = .item := fun z => by rw [z] at h; exact absurd h (by decide)
  unfold step
  rw [if_neg (fun z => n1 z.1), if_neg (fun z => z.1.elim n1 n2)]
  simp only [h, true_and]
theorem sim_open {s : Rd} {m n d b : Nat} {l : List Nat} (h : Rend s l) (q : Sim s m n d) (ho : open_ s.last = true) :
    (step s b = none → nxt m n d b = -1) ∧
    (∀ s', step s b = some s' → ∃ m' d' : Nat, nxt m n d b = (m' : Int) ∧ (d' : Int) = (d : Int) + bit (b = 40) - bit (b = 41) ∧ Sim s' m' (1 + (if m' = m then n else 0)) d') := by
  obtain ⟨hm, hd, n4, n5⟩ := q
  have hmb : m < 2 ∧ (s.last = .bracket ↔ m = 1) := by
    rw [hm]
    unfold md
    cases hl : s.last with
    | token => rw [hl] at ho; exact absurd ho (by decide)
    | item => rw [hl] at ho; exact absurd ho (by decide)
    | start => simp
    | space => simp
    | bracket => simp
  rw [step_openQ ho]
  unfold nxt
  rw [if_pos hmb.1]
  by_cases c1 : m = 1 ∧ b = 41
  · rw [if_pos (show s.last = .bracket ∧ b = 41 from ⟨hmb.2.mpr c1.1, c1.2⟩), if_neg (show ¬ (b = 40 ∧ d < 100) by omega), if_pos (show b = 41 ∧ m = 1 from ⟨c1.2, c1.1⟩)]
    refine ⟨fun z => (nomatch z), fun s' hs' => ?_⟩
    obtain rfl := Option.some.inj hs'
    have hp := List.length_pos_iff.mpr (h.bra (hmb.2.mpr c1.1)).1
    refine ⟨6, d - 1, rfl, by unfold bit; rw [if_neg (by omega), if_pos c1.2]; omega, ?_, ?_, fun z => (nomatch z), fun z => (nomatch z)⟩
    · unfold md; rw [close_out.2]
    · rw [close_out.1, List.length_tail, hd]
  · rw [if_neg (show ¬ (s.last = .bracket ∧ b = 41) from fun z => c1 ⟨hmb.2.mp z.1, z.2⟩)]
    by_cases c2 : b = 40 ∧ d < 100
    · rw [if_pos (show b = 40 ∧ s.out.length + 1 ≤ 100 by omega), if_pos c2]
      refine ⟨fun z => (nomatch z), fun s' hs' => ?_⟩
      obtain rfl := Option.some.inj hs'
      refine ⟨1, d + 1, rfl, by unfold bit; rw [if_pos c2.1, if_neg (by omega)]; omega, rfl, ?_, fun z => (nomatch z), fun z => (nomatch z)⟩
      show d + 1 = (s.cur :: s.out).length
      rw [List.length_cons, hd]
    · rw [if_neg (show ¬ (b = 40 ∧ s.out.length + 1 ≤ 100) by omega), if_neg c2, if_neg (show ¬ (b = 41 ∧ m = 1) by omega)]
      by_cases c3 : firstc b = true
      · rw [if_pos c3]
        refine ⟨fun z => (nomatch z), fun s' hs' => ?_⟩
        obtain rfl := Option.some.inj hs'
        obtain ⟨f1, f2, f3⟩ := firsts c3
        have r := firstc_range.mp c3
        refine ⟨tm [b], d, ?_, by unfold bit; rw [if_neg (by omega), if_neg (by omega)]; omega, rfl, hd, fun z => ?_, fun z => ?_⟩
        · rw [f1]
          by_cases b1 : b = 45
          · rw [if_pos b1, if_pos b1]; rfl
          · rw [if_neg b1, if_neg b1]
            by_cases b2 : b = 48
            · rw [if_pos b2, if_pos b2]; rfl
            · rw [if_neg b2, if_neg b2]
              by_cases b3 : 49 ≤ b ∧ b ≤ 57
              · rw [if_pos b3, if_pos b3]; rfl
              · rw [if_neg b3, if_neg b3, if_pos (letter_range.mpr (by omega))]; rfl
        · rw [if_neg (by omega)]
          refine (f3 fun e => ?_).symm
          subst e
          cases z
        · rw [if_neg (by omega)]; rfl
      · rw [if_neg c3]
        refine ⟨fun _ => ?_, fun _ z => (nomatch z)⟩
        rw [firstc_range] at c3
        rw [if_neg (by omega), if_neg (by omega), if_neg (by omega), if_neg (by rw [letter_range]; omega)]
theorem sim_step {s : Rd} {m n d b i : Nat} {l : List Nat} (h : Rend s l) (q : Sim s m n d) :
    (step s b = none → nxt m n d b = -1) ∧
    (∀ s', step s b = some s' → ∃ m' d' : Nat, nxt m n d b = (m' : Int) ∧ (d' : Int) = (d : Int) + bit (b = 40) - bit (b = 41) ∧ Sim s' m' (1 + (if m' = m then n else 0)) d') := by
  obtain ⟨hm, hd, n4, n5⟩ := q
  obtain ⟨cur, out, tok, last⟩ := s
  by_cases ho : open_ last = true
  · exact sim_open h ⟨hm, hd, n4, n5⟩ ho
  cases last with
  | token =>
    have hm : m = tm tok := hm
    have hd : d = out.length := hd
    subst hm
    have n4 : tm tok = 4 → n = (bare tok).length := n4
    have n5 : tm tok = 5 → n = tok.length := n5
    obtain ⟨t1, t2, t3⟩ := tok_goes (b := b) (h.can rfl) n4 n5
    dsimp only at t1 t2 t3
    have hs := goes_stop tok
    rw [step_token rfl, nxt_hi t1]
    by_cases hg : goes tok b = true
    · rw [if_pos (show goes tok b = true from hg)]
      have nb : ¬ (b = 32 ∨ b = 41) := by
        rintro (rfl | rfl)
        · rw [hs.1] at hg; cases hg
        · rw [hs.2] at hg; cases hg
      rw [if_neg (show ¬ (0 < d ∧ (b = 32 ∨ b = 41)) from fun z => nb z.2)]
      refine ⟨fun z => (nomatch z), fun s' hs' => ?_⟩
      obtain rfl := Option.some.inj hs'
      obtain ⟨t4, t5⟩ := t3 hg
      have t2' := t2.mp hg
      have b40 : b ≠ 40 := by
        rcases t2' with z | z | z
        · omega
        · have := digit_range.mp z.2.2; omega
        · have := wordc_range.mp z.2.2; omega
      have hbd : (d : Int) = d + bit (b = 40) - bit (b = 41) := by
        unfold bit
        rw [if_neg b40, if_neg (by omega)]
        omega
      by_cases h5 : tm tok = 5
      · obtain ⟨t6, t7⟩ := t4 h5
        refine ⟨5, d, ?_, hbd, ?_⟩
        · rw [if_neg (show ¬ ((tm tok = 2 ∧ 49 ≤ b ∧ b ≤ 57) ∨ (tm tok = 4 ∧ n < 200 ∧ digit b = true)) by omega), if_pos (show tm tok = 5 ∧ n < 24 ∧ wordc b = true by rcases t2' with z | z | z <;> first | exact z | omega)]
          rfl
        · refine ⟨t6.symm, hd, fun z => (nomatch z), fun _ => ?_⟩
          rw [if_pos h5.symm]
          exact t7.symm
      · obtain ⟨t6, t7⟩ := t5 h5
        refine ⟨4, d, ?_, hbd, ?_⟩
        · rw [if_pos (show (tm tok = 2 ∧ 49 ≤ b ∧ b ≤ 57) ∨ (tm tok = 4 ∧ n < 200 ∧ digit b = true) by rcases t2' with z | z | z <;> first | exact .inl z | exact .inr z | omega)]
          rfl
        · refine ⟨t6.symm, hd, fun _ => ?_, fun z => (nomatch z)⟩
          refine Eq.trans ?_ t7.symm
          congr 1
          by_cases h4 : tm tok = 4
          · rw [if_pos h4, if_pos h4.symm]
          · rw [if_neg h4, if_neg (Ne.symm h4)]
    · rw [if_neg (show ¬ goes tok b = true from hg)]
      have t2' := fun z => hg (t2.mpr z)
      by_cases hb : out ≠ [] ∧ (b = 32 ∨ b = 41)
      · have hdp : 0 < d := by rw [hd]; exact List.length_pos_iff.mpr hb.1
        rw [if_pos (show out ≠ [] ∧ (b = 32 ∨ b = 41) from hb), if_pos (show 0 < d ∧ (b = 32 ∨ b = 41) from ⟨hdp, hb.2⟩)]
        refine ⟨fun z => (nomatch z), fun s' hs' => ?_⟩
        obtain rfl := Option.some.inj hs'
        by_cases h41 : b = 41
        · subst h41
          refine ⟨6, d - 1, rfl, by unfold bit; rw [if_neg (by decide), if_pos rfl]; omega, ?_⟩
          refine ⟨?_, ?_, fun z => (nomatch z), fun z => (nomatch z)⟩
          · rw [if_pos rfl]; unfold md; rw [close_out.2]
          · rw [if_pos rfl, close_out.1, flush_outQ, List.length_tail, hd]
        · refine ⟨0, d, by rw [if_neg h41]; rfl, by unfold bit; rw [if_neg (by omega), if_neg h41]; omega, ?_⟩
          rw [if_neg h41]
          refine ⟨rfl, ?_, fun z => (nomatch z), fun z => (nomatch z)⟩
          show d = (flush _).out.length
          rw [flush_outQ, hd]
      · rw [if_neg (show ¬ (out ≠ [] ∧ (b = 32 ∨ b = 41)) from hb)]
        refine ⟨fun _ => ?_, fun _ z => (nomatch z)⟩
        rw [if_neg (show ¬ (0 < d ∧ (b = 32 ∨ b = 41)) from fun z => hb ⟨fun y => by rw [y] at hd; simp at hd; omega, z.2⟩), if_neg (show ¬ ((tm tok = 2 ∧ 49 ≤ b ∧ b ≤ 57) ∨ (tm tok = 4 ∧ n < 200 ∧ digit b = true)) from fun z => t2' (z.elim .inl (fun z => .inr (.inl z)))), if_neg (show ¬ (tm tok = 5 ∧ n < 24 ∧ wordc b = true) from fun z => t2' (.inr (.inr z)))]
  | item =>
    have hm : m = 6 := hm
    subst hm
    have hd : d = out.length := hd
    rw [step_item rfl]
    unfold nxt
    rw [if_neg (show ¬ (6 : Nat) < 2 by decide)]
    by_cases hb : out ≠ [] ∧ (b = 32 ∨ b = 41)
    · have hdp : 0 < d := by rw [hd]; exact List.length_pos_iff.mpr hb.1
      rw [if_pos hb, if_pos (show 0 < d ∧ (b = 32 ∨ b = 41) from ⟨hdp, hb.2⟩)]
      refine ⟨fun z => (nomatch z), fun s' hs' => ?_⟩
      obtain rfl := Option.some.inj hs'
      by_cases h41 : b = 41
      · subst h41
        refine ⟨6, d - 1, rfl, by unfold bit; rw [if_neg (by decide), if_pos rfl]; omega, ?_⟩
        refine ⟨?_, ?_, fun z => (nomatch z), fun z => (nomatch z)⟩
        · rw [if_pos rfl]; unfold md; rw [close_out.2]
        · rw [if_pos rfl, close_out.1, List.length_tail, hd]
      · refine ⟨0, d, by rw [if_neg h41]; rfl, by unfold bit; rw [if_neg (by omega), if_neg h41]; omega, ?_⟩
        rw [if_neg h41]
        exact ⟨rfl, hd, fun z => (nomatch z), fun z => (nomatch z)⟩
    · rw [if_neg hb]
      refine ⟨fun _ => ?_, fun _ z => (nomatch z)⟩
      rw [if_neg (fun z => hb ⟨fun y => by rw [y] at hd; simp at hd; omega, z.2⟩), if_neg (by simp), if_neg (by simp)]
  | start => exact absurd rfl ho
  | space => exact absurd rfl ho
  | bracket => exact absurd rfl ho
/-- the end: -1 just where the reader has one note -/
theorem sim_end {s : Rd} {m n d : Nat} {l : List Nat} (h : Rend s l) (q : Sim s m n d) : (d = 0 ∧ 1 < m) ↔ ¬ (s.out ≠ [] ∨ (flush s).cur = []) := by
  obtain ⟨hm, hd, _, _⟩ := q
  have h0 : d = 0 ↔ s.out = [] := by rw [hd]; exact List.length_eq_zero_iff
  rw [h0]
  unfold flush
  cases hl : s.last with
  | token =>
    rw [if_pos rfl]
    have : 1 < m := by
      rw [hm]; unfold md; rw [hl]
      exact (tok_goes (n := if tm s.tok = 4 then (bare s.tok).length else s.tok.length) (b := 0) (h.can hl) (fun z => by rw [if_pos z]) (fun z => by rw [if_neg (by omega)])).1
    simp [this]
  | item =>
    rw [if_neg (by decide)]
    have h1 : m = 6 := by rw [hm]; unfold md; rw [hl]
    have h2 := h.ite hl
    simp [h1, h2]
  | start =>
    rw [if_neg (by decide)]
    have h1 : m = 0 := by rw [hm]; unfold md; rw [hl]
    have h2 := h.sta hl
    have h3 := h.bot h2 (by rw [hl]; decide)
    simp [h1, h2, h3]
  | space =>
    have h1 : m = 0 := by rw [hm]; unfold md; rw [hl]
    have h2 := h.spa hl
    simp [h1, h2]
  | bracket =>
    have h1 : m = 1 := by rw [hm]; unfold md; rw [hl]
    have h2 := (h.bra hl).1
    simp [h1, h2]
end GN

/-! GB: texts. -/
namespace GG
open PySem L2 PyProof.Rows
/-- a text by its signs -/
abbrev S (l : List Nat) : Str := ⟨l.toArray⟩
theorem S_app (a b : List Nat) : S a ++ S b = S (a ++ b) := by
  show (⟨a.toArray ++ b.toArray⟩ : Str) = ⟨(a ++ b).toArray⟩
  rw [List.append_toArray]
theorem S_len (a : List Nat) : (S a).length = a.length := by show a.toArray.size = _; simp
theorem S_inj {a b : List Nat} (h : S a = S b) : a = b := by injection h with h; simpa using congrArg Array.toList h
theorem S_eq {a b : List Nat} : decide (S a = S b) = decide (a = b) := dec_congr ⟨S_inj, fun h => by rw [h]⟩
theorem S_cps (a : List Nat) : (S a).cps.toList = a := by show a.toArray.toList = a; simp
theorem S_of (z : Str) : z = S z.cps.toList := by cases z; simp [S]
/-! ### rules -/
def uInX (K : PySem.W.Frag) : R2 := fun x y H Q => rIn K false x y H Q ∨ ∃ (c : Nat) (z : Str), x = .str ⟨#[c]⟩ ∧ y = .str z ∧ Q (.bl (decide (c ∈ z.cps.toList))) H
def uNotinX (K : PySem.W.Frag) : R2 := fun x y H Q => rIn K true x y H Q ∨ ∃ (c : Nat) (z : Str), x = .str ⟨#[c]⟩ ∧ y = .str z ∧ Q (.bl (!decide (c ∈ z.cps.toList))) H
def cInt2 : List V → Hp → VK → Prop := fun xs H Q => cInt xs H Q ∨ ∃ a n, xs = [.str a] ∧ PySem.intText? a = some n ∧ a.length ≤ 640 ∧ Q (.int n) H
def cStr : List V → Hp → VK → Prop := fun xs H Q => (∃ i, xs = [.int i] ∧ i.natAbs.log2 < 1920 ∧ Q (.str (toString i)) H) ∨ ∃ a, xs = [.str a] ∧ Q (.str a) H
def rJoin (K : PySem.W.Frag) : V → List V → Hp → VK → Prop := fun x xs H Q => ∃ a p, ∃ ys : List Str, x = .str a ∧ xs = [.ref p] ∧ (SqL K H p (ys.map V.str) ∨ SqT K H p (ys.map V.str)) ∧ (ys.map (·.length)).sum + ys.length * a.length ≤ 16777216 ∧ Q (.str (Txt.join a ys)) H
def rRemP : V → List V → Hp → VK → Prop := fun x xs H Q => ∃ a b, x = .str a ∧ xs = [.str b] ∧ a.length ≤ sizeLine ∧ Q (.str (Txt.removeprefix a b)) H
section
variable {X : Cx}
theorem u_inX (K : PySem.W.Frag) (hK : X.K = K := by rfl) : OpR X (compareOp .In) (uInX K) := by subst hK; exact op_in_seq.or op_in_sign
theorem u_notinX (K : PySem.W.Frag) (hK : X.K = K := by rfl) : OpR X (compareOp .NotIn) (uNotinX K) := by subst hK; exact op_notIn_seq.or op_notIn_sign
theorem c_int2 : CallR X (.type "int") cInt2 := fun pins s σ H xs us Q I r h => h.elim (fun h => c_int pins s σ H xs us Q I r h) (fun h => call_int_str pins s σ H xs us Q I r h)
theorem c_str : CallR X (.type "str") cStr := fun pins s σ H xs us Q I r h => h.elim (fun h => call_str_int pins s σ H xs us Q I r h) (fun h => SkE.call_str_str pins s σ H xs us Q I r h)
theorem m_join (K : PySem.W.Frag) (hK : X.K = K := by rfl) : MtR X "str.join" (rJoin K) := by subst hK; exact mt_join
theorem m_extend (K : PySem.W.Frag) : MtR X "list.extend" rExtend := mt_extend
theorem m_removeprefix : MtR X "str.removeprefix" rRemP := mt_removeprefix
/-- a text, n times -/
def rRepS : R2 := fun x y H Q => ∃ (l : List Nat) (n : Nat), x = .str (S l) ∧ y = .int (n : Int) ∧ 1 ≤ n ∧ n ≤ 1000 ∧ l.length ≤ 1000 ∧ l ≠ [] ∧ Q (.str (S (List.replicate n l).flatten)) H
def uMulX : R2 := fun x y H Q => uMul x y H Q ∨ rRepS x y H Q
theorem fold_app (l : List Nat) : ∀ (n : Nat) (a : Array Nat), (List.replicate n l.toArray).foldl (· ++ ·) a = (a.toList ++ (List.replicate n l).flatten).toArray
  | 0, a => by simp
  | n + 1, a => by
    rw [List.replicate_succ, List.foldl_cons, fold_app l n, List.replicate_succ, List.flatten_cons]
    simp
theorem op_repS : OpR X (binaryOp .Mult) rRepS := by
  intro pins s σ H x y v u Q I rx ry h
  obtain ⟨l, n, rfl, rfl, h1, h2, h3, h4, q⟩ := h
  obtain ⟨t, rfl⟩ := (show ∃ t, v = Value.str (S l) t from rx)
  obtain ⟨t2, rfl⟩ := (show ∃ t, u = Value.int (n : Int) t from ry)
  have hl : (S l).length = l.length := S_len l
  have hsz : l.length * n ≤ 1000000 := by
    have := Nat.mul_le_mul h3 h2
    omega
  refine PySem.P.mul_str ?_ ?_ ?_ ?_
  · rw [decide_eq_false (by omega), decide_eq_false (by omega)]; rfl
  · intro _ _
    rw [hl]
    have : (1000000 : Int) ≤ (2 ^ 63 - 1) / (n : Int) := by
      rw [Int.le_ediv_iff_mul_le (by omega)]
      have : (n : Int) ≤ 1000 := by omega
      omega
    omega
  · intro _ _
    unfold Builtin.Str.tooLong
    have := sizeLine_eq
    rw [hl]
    simp
    omega
  · rw [if_neg (by omega)]
    split
    · rename_i hh
      have hn : n = 1 := by
        rw [Bool.or_eq_true, hl] at hh
        rcases hh with hh | hh
        · have := beq_iff_eq.mp hh; omega
        · exact absurd (List.eq_nil_of_length_eq_zero (beq_iff_eq.mp hh)) h4
      subst hn
      rw [show (List.replicate 1 l).flatten = l by simp] at q
      exact ⟨.str (S l), H, I, ⟨_, rfl⟩, q⟩
    · rw [show (⟨(List.replicate ((n : Int)).toNat (S l).cps).foldl (· ++ ·) #[]⟩ : Str) = S (List.replicate n l).flatten by
        rw [Int.toNat_natCast]
        show (⟨(List.replicate n l.toArray).foldl (· ++ ·) #[]⟩ : Str) = _
        rw [fold_app]
        simp]
      refine ⟨?_, .str (S (List.replicate n l).flatten), H, I.tok _, ⟨_, rfl⟩, q⟩
      rw [S_len, List.length_flatten]
      have := sizeLine_eq
      simp
      rw [Nat.mul_comm]
      omega
theorem u_mulX : OpR X (binaryOp .Mult) uMulX := u_mul.or op_repS
def uIsN : R2 := fun x y H Q => y = .non ∧ Q (.bl (decide (x = .non))) H
def uNotN : R2 := fun x y H Q => y = .non ∧ Q (.bl (!decide (x = .non))) H
theorem u_isN : OpR X (compareOp .Is) uIsN := op_isN
theorem u_notN : OpR X (compareOp .IsNot) uNotN := op_notN
/-- a constant of the module -/
theorem pe_const {x : Str} {v : V} {pos : Pos} (h : ∃ u, X.mg x = some u ∧ RelV v u) (hg : Gl X x := by rfl) (hd : (x == ("__debug__" : Str)) = false := by decide) : PE X (.Name x pos) (tC v) := by
  obtain ⟨u, hm, r⟩ := h
  exact pe_glob hg hm r hd
end
section
variable {K : PySem.W.Frag} {σ : L2.St} {H : Hp} {Q : VK} {QB : Bool → Hp → Prop} {a p : Addr} {c : Nat} {z x : Str} {i : Int} {xs ys : List V} {v : V} {l m : List Nat} {ss : List Str} {P0 : Prop}
instance j_isN0 : St1 (uIsN .non .non H Q) (Q (.bl true) H) := ⟨fun q => ⟨rfl, q⟩⟩
instance j_isNI : St1 (uIsN (.int i) .non H Q) (Q (.bl false) H) := ⟨fun q => ⟨rfl, q⟩⟩
instance j_isNS : St1 (uIsN (.str x) .non H Q) (Q (.bl false) H) := ⟨fun q => ⟨rfl, q⟩⟩
instance j_isNR : St1 (uIsN (.ref a) .non H Q) (Q (.bl false) H) := ⟨fun q => ⟨rfl, q⟩⟩
instance j_notN0 : St1 (uNotN .non .non H Q) (Q (.bl false) H) := ⟨fun q => ⟨rfl, q⟩⟩
instance j_notNI : St1 (uNotN (.int i) .non H Q) (Q (.bl true) H) := ⟨fun q => ⟨rfl, q⟩⟩
instance j_notNS : St1 (uNotN (.str x) .non H Q) (Q (.bl true) H) := ⟨fun q => ⟨rfl, q⟩⟩
instance j_notNR : St1 (uNotN (.ref a) .non H Q) (Q (.bl true) H) := ⟨fun q => ⟨rfl, q⟩⟩
instance j_isST : St1 (rIsi K [.str x, .ty "tuple"] H Q) (Q (.bl false) H) := ⟨fun q => ⟨.str x, .ty "tuple", .type "str", .type "tuple", false, rfl, .ty _, .base (.str x), kit_ty (by decide +kernel), q⟩⟩
instance j_isIT : St1 (rIsi K [.int i, .ty "tuple"] H Q) (Q (.bl false) H) := ⟨fun q => ⟨.int i, .ty "tuple", .type "int", .type "tuple", false, rfl, .ty _, .base (.int i), kit_ty (by decide +kernel), q⟩⟩
instance j_isNT : St1 (rIsi K [.non, .ty "tuple"] H Q) (Q (.bl false) H) := ⟨fun q => ⟨.non, .ty "tuple", .type "NoneType", .type "tuple", false, rfl, .ty _, .base .non, kit_ty (by decide +kernel), q⟩⟩
instance j_isSS : St1 (rIsi K [.str x, .ty "str"] H Q) (Q (.bl true) H) := ⟨fun q => ⟨.str x, .ty "str", .type "str", .type "str", true, rfl, .ty _, .base (.str x), kit_ty (by decide +kernel), q⟩⟩
instance j_isIS : St1 (rIsi K [.int i, .ty "str"] H Q) (Q (.bl false) H) := ⟨fun q => ⟨.int i, .ty "str", .type "int", .type "str", false, rfl, .ty _, .base (.int i), kit_ty (by decide +kernel), q⟩⟩
theorem v_isTS {zs : List V} (ha : H a = some (.tup zs)) (q : Q (.bl false) H) : rIsi K [.ref a, .ty "str"] H Q := ⟨.ref a, .ty "str", .type "tuple", .type "str", false, rfl, .ty _, .base (.tup ha), kit_ty (by decide +kernel), q⟩
instance i_tyS : St1 (tyV K "str" (.str x) H ∧ P0) P0 := ⟨fun q => ⟨rfl, q⟩⟩
theorem v_inS (q : Q (.bl (decide (c ∈ z.cps.toList))) H) : uInX K (.str ⟨#[c]⟩) (.str z) H Q := .inr ⟨c, z, rfl, rfl, q⟩
theorem v_notinS (q : Q (.bl (!decide (c ∈ z.cps.toList))) H) : uNotinX K (.str ⟨#[c]⟩) (.str z) H Q := .inr ⟨c, z, rfl, rfl, q⟩
theorem inV_strs : ∀ {ss : List Str}, inV (.str x) (ss.map V.str) = decide (x ∈ ss)
  | [] => rfl
  | y :: ss => by
    have ih := inV_strs (ss := ss)
    unfold inV at ih ⊢
    rw [List.map_cons, List.any_cons, ih]
    show (y == x || decide (x ∈ ss)) = _
    rw [Bool.eq_iff_iff, Bool.or_eq_true, beq_iff_eq, decide_eq_true_eq, decide_eq_true_eq, List.mem_cons]
    exact ⟨fun h => h.elim (fun h => .inl h.symm) .inr, fun h => h.elim (fun h => .inl h.symm) .inr⟩
theorem flat_strs : ∀ {ss : List Str}, (ss.map V.str).all flatV = true
  | [] => rfl
  | y :: ss => by rw [List.map_cons, List.all_cons, flat_strs]; rfl
theorem v_inTS (ha : H a = some (.tup (ss.map V.str))) (q : Q (.bl (decide (x ∈ ss))) H) : uInX K (.str x) (.ref a) H Q := .inl ⟨a, _, rfl, .inr (SqT.of ha), rfl, flat_strs, by rw [if_neg Bool.false_ne_true, inV_strs]; exact q⟩
theorem v_intS {n : Int} (h : PySem.intText? x = some n) (hl : x.length ≤ 640) (q : Q (.int n) H) : cInt2 [.str x] H Q := .inr ⟨x, n, rfl, h, hl, q⟩
theorem v_int2 (q : Q (.int i) H) : cInt2 [.int i] H Q := .inl (v_int q)
instance j_int2 : St1 (cInt2 [.int i] H Q) (Q (.int i) H) := ⟨v_int2⟩
theorem v_strI (h : i.natAbs.log2 < 1920) (q : Q (.str (toString i)) H) : cStr [.int i] H Q := .inl ⟨i, rfl, h, q⟩
instance j_strS : St1 (cStr [.str x] H Q) (Q (.str x) H) := ⟨fun q => .inr ⟨x, rfl, q⟩⟩
/-- the last item -/
theorem v_ixLast (ha : H a = some (.lst (xs ++ [v]))) (q : Q v H) : uIx K (.ref a) (.int (-1)) H Q := by
  refine .inl ⟨a, _, -1, v, rfl, rfl, SqL.of ha, ?_, q⟩
  unfold atI ixN
  rw [if_neg (by decide), List.length_append, List.length_singleton]
  rw [if_pos (by omega)]
  show (xs ++ [v])[_]? = some v
  rw [show (-1 + ((xs.length + 1 : Nat) : Int)).toNat = xs.length by omega]
  simp
theorem v_pop (ha : H a = some (.lst (xs ++ [v]))) (q : ∀ H2, But a H H2 → H2 a = some (.lst xs) → Q v H2) : rPop (.ref a) [] H Q := by
  refine ⟨a, _, v, rfl, rfl, ha, by simp, q _ But.upd ?_⟩
  rw [upd_same]
  simp
/-- one sign of a text -/
theorem v_ixS {j : Nat} (hj : (S l).length ≤ sizeLine) (h : l[j]? = some c) (q : Q (.str ⟨#[c]⟩) H) : uIx K (.str (S l)) (.int (j : Int)) H Q := by
  refine .inr (.inr ⟨S l, (j : Int), c, rfl, rfl, hj, ?_, q⟩)
  rw [S_cps]
  exact atI_nat h
theorem v_lenS (h : z.length ≤ sizeLine) (q : Q (.int (z.length : Int)) H) : cLen K [.str z] H Q := ⟨.str z, z.length, rfl, ⟨h, rfl⟩, q⟩
theorem v_remP (h : x.length ≤ sizeLine) (q : Q (.str (Txt.removeprefix x z)) H) : rRemP (.str x) [.str z] H Q := ⟨x, z, rfl, rfl, h, q⟩
theorem v_joinL (ha : H a = some (.lst (ss.map V.str))) (hz : (ss.map (·.length)).sum + ss.length * x.length ≤ 16777216) (q : Q (.str (Txt.join x ss)) H) : rJoin K (.str x) [.ref a] H Q := ⟨x, a, ss, rfl, rfl, .inl (SqL.of ha), hz, q⟩
theorem v_extend {b : Addr} (ha : H a = some (.lst xs)) (hb : H b = some (.lst ys)) (hz : xs.length + ys.length ≤ 1000000) (q : ∀ H2, But a H H2 → H2 a = some (.lst (xs ++ ys)) → Q .non H2) : rExtend (.ref a) [.ref b] H Q :=
  ⟨a, b, xs, ys, rfl, rfl, ha, hb, by have := sizeLine_eq; omega, q _ But.upd upd_same⟩
theorem ty_str : tyV K "str" (.str x) H := by unfold tyV; exact rfl
theorem r_truL (ha : H a = some (.lst xs)) (q : QB (!xs.isEmpty) H) : rTru K (.ref a) H QB := ⟨_, .inl ⟨xs, SqL.of ha, rfl⟩, q⟩
end
end GG

/-! GP: the texts of shares, in plain lists. -/
namespace GN
open PySem PySem.NumText
/-- decimal digits without a leading zero -/
def num (l : List Nat) : Bool := !l.isEmpty && l.all digit && (decide (l.length = 1) || !decide (l.headD 0 = 48))
theorem num_form {l : List Nat} (h : num l = true) : l = [48] ∨ ∃ d ds, l = d :: ds ∧ 49 ≤ d ∧ AllDigits (d :: ds) := by
  unfold num at h
  rw [Bool.and_eq_true, Bool.and_eq_true, Bool.or_eq_true] at h
  obtain ⟨⟨h1, h2⟩, h3⟩ := h
  cases l with
  | nil => cases h1
  | cons d ds =>
    have ha : AllDigits (d :: ds) := fun c hc => digit_all (List.all_eq_true.mp h2 c hc)
    by_cases e : d = 48
    · subst e
      rcases h3 with h3 | h3
      · left
        have := of_decide_eq_true h3
        simp at this
        rw [this]
      · simp at h3
    · right
      have := ha d (List.mem_cons_self ..)
      exact ⟨d, ds, rfl, by omega, ha⟩
theorem num_all {l : List Nat} (h : num l = true) : AllDigits l := by
  rcases num_form h with rfl | ⟨d, ds, rfl, _, ha⟩
  · intro c hc
    simp at hc
    omega
  · exact ha
theorem num_ne {l : List Nat} (h : num l = true) : l ≠ [] := by
  intro e
  rw [e] at h
  cases h
theorem num_dig {l : List Nat} (h : num l = true) : dig (digitsVal l) = l := by
  rcases num_form h with rfl | ⟨d, ds, rfl, h1, ha⟩
  · exact dig_zero
  · exact dig_back ds d h1 ha
theorem dig_num (m : Nat) : num (dig m) = true := by
  have hall : (dig m).all digit = true := List.all_eq_true.mpr fun c hc => all_digit (dig_all m) hc
  unfold num
  rw [hall, Bool.and_true]
  by_cases h : m = 0
  · subst h
    rw [dig_zero]
    rfl
  · obtain ⟨d, ds, e, h1, h2⟩ := dig_head m (by omega)
    rw [e]
    simp
    omega
theorem num_zero {l : List Nat} (h : num l = true) : digitsVal l = 0 ↔ l = [48] := by
  constructor
  · intro e
    rw [← num_dig h, e, dig_zero]
  · rintro rfl
    rfl
/-- a number with its sign -/
def sg (ng : Bool) (m : Nat) : Int := if ng = true then -(m : Int) else (m : Int)
theorem sg_abs (ng : Bool) (m : Nat) : (sg ng m).natAbs = m := by
  unfold sg
  split <;> omega
theorem sg_itx {ng : Bool} {m : Nat} (h : ng = true → m ≠ 0) : itx (sg ng m) = if ng = true then 45 :: dig m else dig m := by
  unfold itx sg
  cases ng with
  | true =>
    have := h rfl
    simp only [if_true]
    rw [if_pos (by omega)]
    congr 2
    omega
  | false =>
    simp only [Bool.false_eq_true, if_false]
    rw [if_neg (by omega)]
    congr 1
def rdb (ng : Bool) (l : List Nat) : Option (Int × Int) :=
  if num (l.takeWhile (· ≠ 47)) = true ∧ (ng = true → digitsVal (l.takeWhile (· ≠ 47)) ≠ 0) then
    match l.dropWhile (· ≠ 47) with
    | [] => some (sg ng (digitsVal (l.takeWhile (· ≠ 47))), 1)
    | _ :: b => if num b = true ∧ 2 ≤ digitsVal b ∧ Nat.gcd (digitsVal (l.takeWhile (· ≠ 47))) (digitsVal b) = 1 then some (sg ng (digitsVal (l.takeWhile (· ≠ 47))), (digitsVal b : Int)) else none
  else none
/-- the share of a text -/
def rd (l : List Nat) : Option (Int × Int) := rdb (decide (l.headD 0 = 45)) (if l.headD 0 = 45 then l.drop 1 else l)
/-- the text of a share -/
def tx (T B : Int) : List Nat := if B = 1 then itx T else itx T ++ 47 :: itx B
theorem tw_all {a : List Nat} {s : Nat} (h : ∀ c ∈ a, c ≠ s) : a.takeWhile (· ≠ s) = a ∧ a.dropWhile (· ≠ s) = [] := by
  induction a with
  | nil => exact ⟨rfl, rfl⟩
  | cons c d ih =>
    obtain ⟨h1, h2⟩ := ih fun x hx => h x (.tail _ hx)
    have hc := h c (.head _)
    rw [List.takeWhile_cons_of_pos (by simp [hc]), List.dropWhile_cons_of_pos (by simp [hc]), h1, h2]
    exact ⟨rfl, rfl⟩
theorem tw_cut {a r : List Nat} {s : Nat} (h : ∀ c ∈ a, c ≠ s) : (a ++ s :: r).takeWhile (· ≠ s) = a ∧ (a ++ s :: r).dropWhile (· ≠ s) = s :: r := by
  constructor
  · rw [List.takeWhile_append_of_pos (fun x hx => by simp [h x hx]), List.takeWhile_cons_of_neg (by simp), List.append_nil]
  · rw [List.dropWhile_append_of_pos (fun x hx => by simp [h x hx]), List.dropWhile_cons_of_neg (by simp)]
theorem dig_not {m c : Nat} (h : c ∈ dig m) : c ≠ 47 := by
  have := dig_all m c h
  omega
theorem nat_itx {B : Int} (h : 0 ≤ B) : itx B = dig B.natAbs := by
  unfold itx
  rw [if_neg (by omega)]
theorem rdb_tx {T B : Int} {ng : Bool} (h0 : ng = true → T.natAbs ≠ 0) (hB : 0 < B) (hg : Int.gcd T B = 1) : rdb ng (if B = 1 then dig T.natAbs else dig T.natAbs ++ 47 :: dig B.natAbs) = some (sg ng T.natAbs, B) := by
  have hd : ∀ c ∈ dig T.natAbs, c ≠ 47 := fun c hc => dig_not hc
  unfold rdb
  by_cases hb : B = 1
  · rw [if_pos hb, (tw_all hd).1, (tw_all hd).2, if_pos ⟨dig_num _, by rw [dig_val]; exact h0⟩, dig_val, hb]
  · rw [if_neg hb, (tw_cut hd).1, (tw_cut hd).2, if_pos ⟨dig_num _, by rw [dig_val]; exact h0⟩]
    dsimp only
    rw [dig_val, dig_val, if_pos ⟨dig_num _, by omega, hg⟩]
    congr 2
    omega
theorem head_dig (m : Nat) (r : List Nat) : (dig m ++ r).headD 0 ≠ 45 := by
  cases e : dig m with
  | nil => exact absurd (dig_num m) (by rw [e]; decide)
  | cons d ds =>
    have := dig_all m d (by rw [e]; exact List.mem_cons_self ..)
    show d ≠ 45
    omega
theorem rd_tx {T B : Int} (hB : 0 < B) (hg : Int.gcd T B = 1) : rd (tx T B) = some (T, B) := by
  have e : tx T B = if T < 0 then 45 :: (if B = 1 then dig T.natAbs else dig T.natAbs ++ 47 :: dig B.natAbs) else (if B = 1 then dig T.natAbs else dig T.natAbs ++ 47 :: dig B.natAbs) := by
    unfold tx
    rw [nat_itx (B := B) (by omega)]
    unfold itx
    split <;> split <;> rfl
  rw [e]
  unfold rd
  by_cases h : T < 0
  · rw [if_pos h]
    show rdb true (if B = 1 then dig T.natAbs else dig T.natAbs ++ 47 :: dig B.natAbs) = _
    rw [rdb_tx (fun _ => by omega) hB hg]
    unfold sg
    rw [if_pos rfl]
    congr 2
    omega
  · rw [if_neg h]
    have hh : (if B = 1 then dig T.natAbs else dig T.natAbs ++ 47 :: dig B.natAbs).headD 0 ≠ 45 := by
      split
      · have := head_dig T.natAbs []
        rwa [List.append_nil] at this
      · exact head_dig _ _
    rw [if_neg hh, decide_eq_false hh, rdb_tx (ng := false) (fun z => nomatch z) hB hg]
    unfold sg
    rw [if_neg Bool.false_ne_true]
    congr 2
    omega
theorem tw_app (l : List Nat) (s : Nat) : l = l.takeWhile (· ≠ s) ++ l.dropWhile (· ≠ s) := List.takeWhile_append_dropWhile.symm
theorem dw_head {l b : List Nat} {s x : Nat} (h : l.dropWhile (· ≠ s) = x :: b) : x = s := by
  have h2 : (l.dropWhile (· ≠ s)).head? = some x := by rw [h]; rfl
  have := List.head?_dropWhile_not (fun c => decide (c ≠ s)) l
  rw [h2] at this
  simpa using this
theorem rdb_back {ng : Bool} {l : List Nat} {T B : Int} (h : rdb ng l = some (T, B)) : (if ng = true then 45 :: l else l) = tx T B ∧ 0 < B ∧ Int.gcd T B = 1 ∧ T.natAbs < 10 ^ l.length ∧ B.natAbs < 10 ^ (l.length + 1) := by
  unfold rdb at h
  split at h
  · rename_i hc
    obtain ⟨h1, h2⟩ := hc
    have h3 := num_dig h1
    have hlen : (l.takeWhile (· ≠ 47)).length ≤ l.length := (List.takeWhile_sublist _).length_le
    have hlt : digitsVal (l.takeWhile (· ≠ 47)) < 10 ^ l.length := Nat.lt_of_lt_of_le (digits_lt2 (num_all h1)) (Nat.pow_le_pow_right (by decide) hlen)
    have ha := tw_app l 47
    split at h
    · rename_i he
      cases h
      rw [he, List.append_nil] at ha
      refine ⟨?_, by decide, by simp, by rw [sg_abs]; exact hlt, Nat.one_lt_pow (by omega) (by decide)⟩
      unfold tx
      rw [if_pos rfl, sg_itx h2, h3, ← ha]
    · rename_i x b he
      split at h
      · rename_i hb
        obtain ⟨b1, b2, b3⟩ := hb
        have hx := dw_head he
        rw [hx] at he
        cases h
        have hbl : b.length ≤ l.length := by
          have := (List.dropWhile_sublist (l := l) (fun c => decide (c ≠ 47))).length_le
          rw [he] at this
          simp at this
          omega
        refine ⟨?_, by omega, by unfold Int.gcd; rw [sg_abs]; exact b3, by rw [sg_abs]; exact hlt, ?_⟩
        · unfold tx
          rw [if_neg (show ¬ ((digitsVal b : Nat) : Int) = 1 by omega), sg_itx h2, h3, nat_itx (by omega), Int.natAbs_natCast, num_dig b1]
          rw [he] at ha
          cases ng with
          | true =>
            rw [if_pos rfl, if_pos rfl, List.cons_append, ← ha]
          | false =>
            rw [if_neg Bool.false_ne_true, if_neg Bool.false_ne_true, ← ha]
        · rw [Int.natAbs_natCast]
          exact Nat.lt_of_lt_of_le (digits_lt2 (num_all b1)) (Nat.pow_le_pow_right (by decide) (by omega))
      · cases h
  · cases h
theorem rd_back {l : List Nat} {T B : Int} (h : rd l = some (T, B)) : l = tx T B ∧ 0 < B ∧ Int.gcd T B = 1 ∧ T.natAbs < 10 ^ (l.length + 1) ∧ B.natAbs < 10 ^ (l.length + 1) := by
  unfold rd at h
  by_cases e : l.headD 0 = 45
  · rw [if_pos e, decide_eq_true e] at h
    obtain ⟨d, rfl⟩ : ∃ d, l = 45 :: d := by
      cases l with
      | nil => cases e
      | cons c d => exact ⟨d, by rw [show c = 45 from e]⟩
    obtain ⟨h1, h2, h3, h4, h5⟩ := rdb_back h
    rw [List.drop_one, List.tail_cons] at h1 h4 h5
    rw [if_pos rfl] at h1
    exact ⟨h1, h2, h3, Nat.lt_of_lt_of_le h4 (Nat.pow_le_pow_right (by decide) (by simp; omega)), Nat.lt_of_lt_of_le h5 (Nat.pow_le_pow_right (by decide) (by simp))⟩
  · rw [if_neg e, decide_eq_false e] at h
    obtain ⟨h1, h2, h3, h4, h5⟩ := rdb_back h
    rw [if_neg Bool.false_ne_true] at h1
    exact ⟨h1, h2, h3, Nat.lt_of_lt_of_le h4 (Nat.pow_le_pow_right (by decide) (by omega)), h5⟩
theorem bare_tw (l : List Nat) : bare (l.takeWhile (· ≠ 47)) = (if l.headD 0 = 45 then l.drop 1 else l).takeWhile (· ≠ 47) := by
  cases l with
  | nil => rfl
  | cons c d =>
    by_cases e : c = 45
    · subst e
      rw [List.takeWhile_cons_of_pos (by decide), if_pos (show (45 :: d).headD 0 = 45 from rfl)]
      rfl
    · rw [if_neg (show ¬ (c :: d).headD 0 = 45 from e)]
      by_cases e2 : c = 47
      · subst e2
        rw [List.takeWhile_cons_of_neg (by decide)]
        rfl
      · rw [List.takeWhile_cons_of_pos (by simp [e2])]
        unfold bare
        split
        · rename_i h
          cases h
          exact absurd rfl e
        · rfl
theorem dw_body (l : List Nat) : (if l.headD 0 = 45 then l.drop 1 else l).dropWhile (· ≠ 47) = l.dropWhile (· ≠ 47) := by
  cases l with
  | nil => rfl
  | cons c d =>
    by_cases e : c = 45
    · subst e
      rw [if_pos (show (45 :: d).headD 0 = 45 from rfl), List.dropWhile_cons_of_pos (by decide)]
      rfl
    · rw [if_neg (show ¬ (c :: d).headD 0 = 45 from e)]
theorem tw_top (l : List Nat) : l.takeWhile (· ≠ 47) = if decide (l.headD 0 = 45) = true then 45 :: bare (l.takeWhile (· ≠ 47)) else bare (l.takeWhile (· ≠ 47)) := by
  cases l with
  | nil => rfl
  | cons c d =>
    by_cases e : c = 45
    · subst e
      rw [if_pos (decide_eq_true (show (45 :: d).headD 0 = 45 from rfl)), List.takeWhile_cons_of_pos (by decide)]
      rfl
    · rw [if_neg (by rw [decide_eq_false (show ¬ (c :: d).headD 0 = 45 from e)]; exact Bool.false_ne_true), bare_tw, if_neg (show ¬ (c :: d).headD 0 = 45 from e)]
/-- the digits of the top -/
def tt (l : List Nat) : List Nat := bare (l.takeWhile (· ≠ 47))
theorem rd_bad {l : List Nat} (h : ¬ (num (tt l) = true ∧ (decide (l.headD 0 = 45) = true → digitsVal (tt l) ≠ 0))) : rd l = none := by
  unfold tt at h
  rw [bare_tw] at h
  unfold rd rdb
  rw [if_neg h]
theorem rd_one {l : List Nat} (h1 : num (tt l) = true) (h2 : decide (l.headD 0 = 45) = true → digitsVal (tt l) ≠ 0) (h : l.dropWhile (· ≠ 47) = []) : rd l = some (sg (decide (l.headD 0 = 45)) (digitsVal (tt l)), 1) := by
  unfold tt at *
  rw [bare_tw] at *
  unfold rd rdb
  rw [if_pos ⟨h1, h2⟩, dw_body, h]
theorem rd_two {l b : List Nat} {s : Nat} (h1 : num (tt l) = true) (h2 : decide (l.headD 0 = 45) = true → digitsVal (tt l) ≠ 0) (h : l.dropWhile (· ≠ 47) = s :: b) (hb : num b = true ∧ 2 ≤ digitsVal b ∧ Nat.gcd (digitsVal (tt l)) (digitsVal b) = 1) : rd l = some (sg (decide (l.headD 0 = 45)) (digitsVal (tt l)), (digitsVal b : Int)) := by
  unfold tt at *
  rw [bare_tw] at *
  unfold rd rdb
  rw [if_pos ⟨h1, h2⟩, dw_body, h]
  dsimp only
  rw [if_pos hb]
theorem rd_bad2 {l b : List Nat} {s : Nat} (h : l.dropWhile (· ≠ 47) = s :: b) (hb : ¬ (num b = true ∧ 2 ≤ digitsVal b ∧ Nat.gcd (digitsVal (tt l)) (digitsVal b) = 1)) : rd l = none := by
  unfold tt at hb
  rw [bare_tw] at hb
  unfold rd rdb
  rw [dw_body, h]
  dsimp only
  rw [if_neg hb]
  exact ite_self _
theorem bare_len (t : List Nat) : (bare t).length ≤ t.length := by
  unfold bare
  split <;> simp
theorem bare_mem {t : List Nat} {c : Nat} (h : c ∈ bare t) : c ∈ t := by
  unfold bare at h
  split at h
  · exact .tail _ h
  · exact h
theorem take1 (l : List Nat) : l.take 1 = [45] ↔ l.headD 0 = 45 := by
  cases l with
  | nil => simp
  | cons c d => simp
theorem num_47 {b : List Nat} (h : 47 ∈ b) : num b = false := by
  cases e : num b with
  | false => rfl
  | true =>
    have := num_all e 47 h
    omega
theorem int_text {ng : Bool} {t : List Nat} (h : num t = true) (hl : t.length ≤ 600) : intText? ⟨(if ng = true then 45 :: t else t).toArray⟩ = some (sg ng (digitsVal t)) := by
  have ha := num_all h
  cases ng with
  | true =>
    rw [if_pos rfl]
    exact intText_neg (x := ⟨(45 :: t).toArray⟩) (by simp) ha (num_ne h) (by show (45 :: t).toArray.size ≤ 4300; simp; omega)
  | false =>
    rw [if_neg Bool.false_ne_true]
    have e := intText_digits (x := ⟨t.toArray⟩) (by intro d hd; simp at hd; exact ha d hd) (by simp; exact num_ne h) (by show t.toArray.size ≤ 4300; simp; omega)
    rw [e]
    show some ((digitsVal t.toArray.toList : Nat) : Int) = _
    simp [sg]
end GN

/-! GD: where a token must be out: text.replace, defs that use it, what brings a token out. -/
namespace GG
open PySem PySem.Spec PySem.StrLaws L2 PyProof.Rows
/-- behind e a token is out -/
def PE1 (X : Cx) (e : Expr) (t : TE) : Prop :=
  ∀ (pins : List (Addr × Obj)) (s : Shared) (σ : L2.St) (H : Hp) (Q : VK), L2.Inv X pins σ H s → t σ H Q → wpAny (model X.prog X.w) X.A (eval e X.env) (fun v s1 => 1 ≤ s1.toks ∧ EP X pins σ Q v s1) X.xe s
section
variable {X : Cx} {a b o : Expr} {rest es : List Expr} {ta tb to : TE} {t : TA} {pos p apos : Pos} {i : Int} {j k : Nat} {e : Expr} {te : TE} {x : Str} {sp : Sp} {dvs : List V} {E : L2.St → XK} {ps : List Str}
theorem pe1_int : PE1 X (.Constant (.int i) j pos) (tC (.int i)) := fun pins s σ H Q I h => wpAny_Constant_int ⟨by show 1 ≤ s.toks + 1; omega, .int i, H, I.tok _, ⟨_, rfl⟩, h⟩
theorem pe1_un {op : UnaryOp} {r : V → Hp → VK → Prop} (ho : UnR X (unaryOp op) r) (ha : PE1 X a ta) : PE1 X (.UnaryOp op a pos) (tUn r ta) := by
  intro pins s σ H Q I h
  refine UnaryOp_ (wpAny_mono (ha pins s σ H _ I h) (fun v s1 q => ?_) fun _ _ z => z)
  obtain ⟨h1, x, H1, I1, r1, q1⟩ := q
  exact PySem.wpAny_with_toks h1 (wpAny_mono (ho pins s1 σ H1 x v Q I1 r1 q1) (fun _ _ z hk => ⟨hk, z⟩) fun _ _ z _ => z)
theorem pe1_cmp {op : CmpOp} {r : R2} (ho : OpR X (compareOp op) r) (ha : PE X a ta) (hb : PE1 X b tb) (hm : behindInMarks op b = false) : PE1 X (.Compare a [op] [b] pos) (tOp r ta tb) := by
  intro pins s σ H Q I h
  refine wpAny_Compare1 (thn (ha.run pins s σ H _ I h) fun v s1 ⟨x, H1, I1, r1, q1⟩ => wpAny_mono (hb pins s1 σ H1 _ I1 q1) (fun u s2 q => ?_) fun _ _ z => z) hm
  obtain ⟨h1, y, H2, I2, r2, q2⟩ := q
  exact PySem.wpAny_with_toks h1 (wpAny_mono (ho pins s2 σ H2 x y v u Q I2 r1 r2 q2) (fun _ _ z hk => ⟨hk, z⟩) fun _ _ z _ => z)
theorem pe1_op {op : Operator} {r : R2} (ho : OpR X (binaryOp op) r) (ha : PE X a ta) (hb : PE1 X b tb) : PE1 X (.BinOp a op b pos) (tOp r ta tb) := by
  intro pins s σ H Q I h
  refine wpAny_BinOp (thn (ha.run pins s σ H _ I h) fun v s1 ⟨x, H1, I1, r1, q1⟩ => wpAny_mono (hb pins s1 σ H1 _ I1 q1) (fun u s2 q => ?_) fun _ _ z => z)
  obtain ⟨h1, y, H2, I2, r2, q2⟩ := q
  exact PySem.wpAny_with_toks h1 (wpAny_mono (ho pins s2 σ H2 x y v u Q I2 r1 r2 q2) (fun _ _ z hk => ⟨hk, z⟩) fun _ _ z _ => z)
theorem pet_one {op : BoolOp} (h : PET X a ta) : PET X (.BoolOp op [a] pos) ta := fun pins s σ H Q h0 I hw => BoolOp_one (h pins s σ H Q h0 I hw)
theorem pet_and (ha : PET X a ta) (hb : PET X (.BoolOp .And (b :: rest) pos) tb) : PET X (.BoolOp .And (a :: b :: rest) pos) (tAndV ta tb) := by
  intro pins s σ H Q h0 I h
  refine BoolOp_and (PySem.wpAny_with_toks h0 (wpAny_mono (ha pins s σ H _ h0 I h) (fun v s1 q hk => ?_) fun _ _ z _ => z))
  obtain ⟨x, H1, I1, r1, q1⟩ := q
  obtain ⟨d, rfl, q1⟩ := q1
  cases r1
  refine wpAny_truthy_bool ?_
  cases d with
  | true => exact hb pins s1 σ H1 Q hk I1 q1
  | false => exact ⟨.bl false, H1, I1, rfl, q1⟩
/-- a and ..: behind a a token is out -/
theorem pe_and1 (ha : PE1 X a ta) (hb : PET X (.BoolOp .And (b :: rest) pos) tb) : PE X (.BoolOp .And (a :: b :: rest) pos) (tAndV ta tb) := by
  refine ⟨fun pins s σ H Q I h => ?_⟩
  refine BoolOp_and (wpAny_mono (ha pins s σ H _ I h) (fun v s1 q => ?_) fun _ _ z => z)
  obtain ⟨hk, x, H1, I1, r1, q1⟩ := q
  obtain ⟨d, rfl, q1⟩ := q1
  cases r1
  refine wpAny_truthy_bool ?_
  cases d with
  | true => exact hb pins s1 σ H1 Q hk I1 q1
  | false => exact ⟨.bl false, H1, I1, rfl, q1⟩
/-- f(e, ..), a token being out -/
theorem pet_fn (F : Fn X.prog X.w X.K X.mg X.base x k ps dvs sp) (hr : Room k X.A) (hx : Ps X E) (ha : PAT X (e :: es) t) (hg : Gl X x := by rfl) (hdb : (x == ("__debug__" : Str)) = false := by decide)
    (he : starEach (e :: es) X.env = (false, eval e X.env) :: starEach es X.env := by rfl) (hpl : (backTo pos (starEach es X.env)).any (·.1) = false := by rfl) :
    PET X (.Call (.Name x p) (e :: es) [] pos) (tCallSD sp dvs E t) := by
  obtain ⟨f, fd, ds, F, hm, hk, hb, hd⟩ := F.ex
  intro pins s σ H Q h0 I h
  refine wpAny_Call_Name_kw (ld_glob I hg hm ?_ hdb)
  refine PySem.W.callWith_K (h₀ := X.base) I.ok.mod.kin hk (thn (ha pos pins s σ H _ h0 I h) fun us s1 ⟨vs, H1, I1, r, q⟩ => ⟨I1.kIn, ?_⟩) he hpl
  exact run_fnSD F hr hb hd (hx σ) I1 r q
/-- a def that wants a token out -/
def FnOkT (P : Program) (w : World) (K : PySem.W.Frag) (mg : Str → Option Value) (base : Heap) (k : Nat) (f : Addr) (fd : FuncData) (ps : List Str) (sp : Sp) : Prop :=
  (∀ vs H Q E, sp vs H Q E → vs.length = ps.length) ∧ ∀ (A : Around) (outer : List Env) (s : Shared) (H : Hp) (args : Args) (us : List Value) (vs : List V) (Q : VK) (E : XK), 1 ≤ s.toks → Room k A → Env0 P w K mg base A outer s H → BindsTo s fd args (ps.zip us) → Vals vs us → sp vs H Q E →
    codeAny (model P w) A (.call (.ref f) args) (CR (L2N.CX P w) outer P w H s Q E) s
structure FnT (P : Program) (w : World) (K : PySem.W.Frag) (mg : Str → Option Value) (base : Heap) (x : Str) (k : Nat) (ps : List Str) (sp : Sp) : Prop where
  ex : ∃ f fd, FnOkT P w K mg base k f fd ps sp ∧ mg x = some (.ref f) ∧ PySem.W.keepIn K (.ref f) = true ∧ L2.Binds K fd ps []
theorem pet_fnT (F : FnT X.prog X.w X.K X.mg X.base x k ps sp) (hr : Room k X.A) (hx : Ps X E) (ha : PAT X (e :: es) t) (hg : Gl X x := by rfl) (hdb : (x == ("__debug__" : Str)) = false := by decide)
    (he : starEach (e :: es) X.env = (false, eval e X.env) :: starEach es X.env := by rfl) (hpl : (backTo pos (starEach es X.env)).any (·.1) = false := by rfl) :
    PET X (.Call (.Name x p) (e :: es) [] pos) (tCallSD sp [] E t) := by
  obtain ⟨f, fd, ⟨len, F⟩, hm, hk, hb⟩ := F.ex
  intro pins s σ H Q h0 I h
  refine wpAny_Call_Name_kw (ld_glob I hg hm ?_ hdb)
  refine PySem.W.callWith_K (h₀ := X.base) I.ok.mod.kin hk (PySem.wpAny_with_toks h0 (wpAny_mono (ha pos pins s σ H _ h0 I h) (fun us s1 qq h1 => ?_) fun _ _ z _ => z)) he hpl
  obtain ⟨vs, H1, I1, r, q⟩ := qq
  refine ⟨I1.kIn, ?_⟩
  have q' : sp vs H1 Q (E σ) := by rw [List.append_nil] at q; exact q
  have hl : us.length = ps.length := by rw [← r.length]; exact len _ _ _ _ q'
  refine wpAny_call (codeAny_mono (F X.A X.stack s1 H1 ⟨us, []⟩ us vs Q (E σ) h1 hr I1.env0 (by have := hb s1 us I1.kIn (by rw [List.append_nil]; exact hl); rw [List.append_nil] at this; exact this) r q') fun r s' hq => ?_)
  cases r with
  | error e => exact hx σ pins H1 s1 e s' I1 hq
  | ok fl =>
    cases fl with
    | ret u => exact I1.after hq
    | next => exact False.elim hq
    | brk => exact False.elim hq
    | cont => exact False.elim hq
/-- e.split(), a token being out -/
def rWords (x : V) (H : Hp) (Q : VK) : Prop := ∃ a, x = .str a ∧ [] = ([] : List V) ∧ a.length + 2 ≤ sizeLine ∧ rNewStrs (Txt.words a) H Q
def tWords (to : TE) : TE := fun σ H Q => to σ H fun x H1 => rWords x H1 Q
theorem pet_words (ho : PET X o to) (hbase : attributeBase o "split" X.env (eval o X.env) = eval o X.env := by rfl) (hline : (apos.endLine == pos.line) = true := by rfl) : PET X (.Call (.Attribute o "split" apos) [] [] pos) (tWords to) := by
  intro pins s σ H Q h0 I h
  refine PySem.Call_method0 hbase hline (thn (ho pins s σ H _ h0 I h) fun v s1 ⟨x, H1, I1, r1, q1⟩ => ?_)
  obtain ⟨a, rfl, e2, hz, q2⟩ := q1
  obtain ⟨t, rfl⟩ := _root_.id r1
  exact ⟨"str", _, F.plainAttrs_str, F.slot_str_split, F.type_str_split, typeIs_str _ _ _, (fun _ e => nomatch e), Calls.callWith_builtin rfl (PySem.evalArgs_none (mt_words pins s1 σ H1 _ [] _ [] Q I1 r1 .nil ⟨a, rfl, rfl, hz, q2⟩))⟩
end
theorem pit_listK (K : PySem.W.Frag) {X : Cx} {tg e : Expr} {te : TE} (h : PIT X tg e (iList X.K te)) (hK : X.K = K := by rfl) : PIT X tg e (iList K te) := by subst hK; exact h
def rReplC (y z : Str) (v : V) (H : Hp) (Q : VK) : Prop := ∃ x, v = .str x ∧ x.length + (x.length + 1) * z.length ≤ 16777216 ∧ Q (.str (Txt.replace x y z)) H
section
variable {σ : L2.St} {H : Hp} {Q : VK} {to : TE} {y z : Str}
instance i_replC : St1 (CwR.tReplC to y z σ H Q) (to σ H fun v H1 => rReplC y z v H1 Q) := ⟨fun h => h⟩
instance i_words : St1 (tWords to σ H Q) (to σ H fun x H1 => rWords x H1 Q) := ⟨fun h => h⟩
/-- one sign replaced -/
def rep1 (s : Nat) (m : List Nat) (l : List Nat) : List Nat := l.flatMap fun b => if b = s then m else [b]
theorem rep1_len (s : Nat) (m : List Nat) : ∀ (l : List Nat), (rep1 s m l).length ≤ (m.length + 1) * l.length
  | [] => by simp [rep1]
  | d :: l => by
    have ih := rep1_len s m l
    have e : rep1 s m (d :: l) = (if d = s then m else [d]) ++ rep1 s m l := by simp [rep1]
    rw [e, List.length_append, List.length_cons, Nat.mul_succ]
    have : (if d = s then m else [d]).length ≤ m.length + 1 := by split <;> simp
    omega
theorem repl_one {s : Nat} {m : List Nat} : ∀ (l : List Nat), replL [s] m l = rep1 s m l
  | [] => replL_nil
  | b :: r => by
    by_cases h : b = s
    · subst h
      rw [replL_hit (by simp) (by simp), List.length_singleton, List.drop_one, List.tail_cons, repl_one r]
      simp [rep1]
    · rw [replL_miss (by simp; exact h), repl_one r]
      simp [rep1, h]
theorem v_wordsS {l : List Nat} {ws : List (List Nat)} (hz : l.length ≤ 1000000) (e : Txt.words (S l) = ws.map S) (q : ∀ p H2, H p = none → Ext H H2 → H2 p = some (.lst (ws.map fun t => V.str (S t))) → Q (.ref p) H2) : rWords (.str (S l)) H Q := by
  refine ⟨S l, rfl, rfl, by rw [S_len, sizeLine_eq]; omega, fun p hp => q p _ hp (Ext.new hp) ?_⟩
  rw [upd_same, e, List.map_map]
  rfl
theorem v_repl1 {s : Nat} {m l : List Nat} (h : l.length + (l.length + 1) * m.length ≤ 16777216) (q : Q (.str (S (rep1 s m l))) H) : rReplC (S [s]) (S m) (.str (S l)) H Q := by
  refine ⟨S l, rfl, by rw [S_len, S_len]; exact h, ?_⟩
  have e : Txt.replace (S l) (S [s]) (S m) = S (rep1 s m l) := by
    rw [S_of (Txt.replace (S l) (S [s]) (S m)), replace_list (by show 1 ≤ (S [s]).length; rw [S_len]; simp), S_cps, S_cps, S_cps, repl_one]
  rw [e]
  exact q
end
theorem Fun.okT {P : Program} {w : World} {K : PySem.W.Frag} {mg : Str → Option Value} {base : Heap} {x qual : Str} {st : Stmt} {f : Addr} {fd : FuncData} {N ps : List Str} {k : Nat} {sp : Sp} (F : Fun K x qual st f fd) (S : FnScope N ps (defScope st)) (len : ∀ vs H Q E, sp vs H Q E → vs.length = ps.length)
    (hbody : ∀ (cdv : Value) (A : Around) (outer : List Env) (s : Shared) (H : Hp) (vs : List V) (Q : VK) (E : XK), Room k (A.deeper (envOfC qual (defScope st) s.heap.objs.size f cdv)) → sp vs H Q E →
      ∃ t, PSsT (cxOf (L2N.CX P w) P w K mg base N qual (defScope st) f cdv A outer s H E) (defBody st) t ∧ t { nx := fun _ H' => Q .non H', rt := Q } (start N vs) H) : FnOkT P w K mg base (k + 1) f fd ps sp := by
  obtain ⟨oc, od, kV, doc, pm, an, cdv, ct, osl, rfl, lk, hcd⟩ := F.ex
  refine ⟨len, fun A outer s H args us vs Q E h0 hr e0 hb r hsp => ?_⟩
  have hl := len _ _ _ _ hsp
  have KX : K.In s.heap := e0.mod.kin.keeps fun b o e => (e0.bs b o e).1
  have lim : s.heap.NoLimit := e0.mod.nolimit.keeps fun b o e => (e0.bs b o e).1
  have hkind : ∀ y ∈ ps.zip us, (defScope st).names.lookup y.1 = some .local ∨ ((defScope st).names.lookup y.1 = some .cell ∧ ((cellsFrom (s.heap.objs.size + 1) (defScope st).names []).lookup y.1).isSome = true) := fun ⟨n, v⟩ hy => by
    rcases S.par n (List.of_mem_zip hy).1 with q | q
    · exact .inl q
    · exact .inr ⟨q, PySem.W.cellsFrom_some _ _ _ (.inl q)⟩
  refine codeAny_call_function hr.depth (KX _ _ lk) rfl S.co S.gen rfl (PySem.W.codeRec_of KX hcd) (hb _ _ _ _ ?_)
  refine PySem.wpAny_with_toks h0 (wpAny_newFunctionEnv_cells S.kind hkind fun env he s1 x h1 => ?_)
  subst he
  refine ⟨lim.keeps x.toInCall.keep, codeAny_func ?_⟩
  obtain ⟨t, ht, hq⟩ := hbody cdv A outer s H vs Q E (hr.deeper _) hsp
  have I : L2.Inv (cxOf (L2N.CX P w) P w K mg base N qual (defScope st) f cdv A outer s H E) [] (start N vs) H s1 := inv_start S hr.hd e0 hl r x
  refine wpAny_mono (ht [] s1 (start N vs) H _ h1 I hq) (fun fl s' hs => ?_) fun e s' hs => hs
  have fin : ∀ {σ' : L2.St} {H' : Hp} {v : V} {u : Value}, L2.Inv (cxOf (L2N.CX P w) P w K mg base N qual (defScope st) f cdv A outer s H E) [] σ' H' s' → RelV v u → Q v H' → CE outer P w H s Q u s' :=
    fun {σ' H' v u} J rv q => ⟨v, H', J.os, J.bare, J.base, J.hok, rv, q⟩
  cases fl with
  | ret u =>
    obtain ⟨v, σ', H', J, rv, q⟩ := hs
    exact fin J rv q
  | next =>
    obtain ⟨σ', H', J, q⟩ := hs
    exact fin (v := V.non) (u := Value.none) J rfl q
  | brk =>
    obtain ⟨_, _, _, q⟩ := hs
    exact False.elim q
  | cont =>
    obtain ⟨_, _, _, q⟩ := hs
    exact False.elim q
end GG

/-! GO: the words of a note's text, and the note of these words (pure, but for str.split). -/
namespace GN
open PySem PySem.NumText
mutual
def toks : Nt → List (List Nat)
  | .non => [[45]]
  | .wd l => [l]
  | .int i => [itx i]
  | .tup xs => [40] :: (tokss xs ++ [[41]])
def tokss : List Nt → List (List Nat)
  | [] => []
  | x :: xs => toks x ++ tokss xs
end
/-- brackets with blanks around them -/
def exp (l : List Nat) : List Nat := GG.rep1 41 [32, 41, 32] (GG.rep1 40 [32, 40, 32] l)
theorem exp_app (a b : List Nat) : exp (a ++ b) = exp a ++ exp b := by
  unfold exp GG.rep1
  rw [List.flatMap_append, List.flatMap_append]
theorem exp_word : ∀ {l : List Nat}, (∀ d ∈ l, d ≠ 40 ∧ d ≠ 41) → exp l = l
  | [], _ => rfl
  | d :: l, h => by
    obtain ⟨h1, h2⟩ := h d (.head _)
    have e : exp [d] = [d] := by
      unfold exp GG.rep1
      simp [h1, h2]
    rw [← List.singleton_append, exp_app, e, exp_word fun x hx => h x (.tail _ hx)]
theorem exp_len : ∀ (l : List Nat), (exp l).length ≤ 3 * l.length
  | [] => by simp [exp, GG.rep1]
  | d :: l => by
    have e : (exp [d]).length ≤ 3 := by
      unfold exp GG.rep1
      by_cases h1 : d = 40
      · subst h1; simp
      · by_cases h2 : d = 41
        · subst h2; simp
        · simp [h1, h2]
    rw [← List.singleton_append, exp_app, List.length_append, List.length_append]
    have := exp_len l
    simp at *
    omega
theorem wstep_sp (st : List (List Nat) × List Nat) : TL.wstep st 32 = (TL.wfin st, []) := by
  have hs : Unicode.isSpace 32 = true := by decide +kernel
  obtain ⟨ws, u⟩ := st
  unfold TL.wstep TL.wfin
  rw [if_pos hs]
  by_cases h : u = []
  · subst h
    simp
  · simp [h]
theorem wstep_c {st : List (List Nat) × List Nat} {d : Nat} (h : Unicode.isSpace d = false) : TL.wstep st d = (st.1, st.2 ++ [d]) := by
  unfold TL.wstep
  rw [if_neg (by rw [h]; exact Bool.false_ne_true)]
theorem nosp {d : Nat} (h : wordc d = true) : Unicode.isSpace d = false ∧ d ≠ 40 ∧ d ≠ 41 := by
  have h1 : d < 128 := by
    unfold wordc letter digit at h
    simp at h
    omega
  have h2 : ∀ d, d < 128 → wordc d = true → Unicode.isSpace d = false ∧ d ≠ 40 ∧ d ≠ 41 := by decide +kernel
  exact h2 d h1 h
theorem word_c {l : List Nat} (h : Word l) : l ≠ [] ∧ ∀ d ∈ l, wordc d = true := by
  obtain ⟨d, ds, rfl, h1, h2, _⟩ := h
  refine ⟨by simp, fun x hx => ?_⟩
  rcases List.mem_cons.mp hx with rfl | hx
  · unfold wordc
    rw [h1]
    rfl
  · exact h2 x hx
theorem itx_c (i : Int) : itx i ≠ [] ∧ ∀ d ∈ itx i, wordc d = true := by
  have hd : ∀ d ∈ dig i.natAbs, wordc d = true := fun d h => by
    have := all_digit (dig_all _) h
    unfold wordc
    rw [this]
    simp
  have hn := num_ne (dig_num i.natAbs)
  unfold itx
  split
  · refine ⟨by simp, fun x hx => ?_⟩
    rcases List.mem_cons.mp hx with rfl | hx
    · decide
    · exact hd x hx
  · exact ⟨hn, hd⟩
theorem one_word {l : List Nat} (h : l ≠ [] ∧ ∀ d ∈ l, wordc d = true) (ws : List (List Nat)) : TL.wfin ((exp l).foldl TL.wstep (ws, [])) = ws ++ [l] := by
  rw [exp_word fun d hd => (nosp (h.2 d hd)).2, TL.wfold_word l ws [] fun d hd => (nosp (h.2 d hd)).1, List.nil_append]
  exact if_neg h.1
mutual
theorem wds : ∀ (n : Nt), Ok n → ∀ ws, TL.wfin ((exp (wr n)).foldl TL.wstep (ws, [])) = ws ++ toks n
  | .non, _, ws => one_word (l := [45]) ⟨by simp, fun d hd => by simp at hd; subst hd; decide⟩ ws
  | .wd l, h, ws => one_word (word_c h) ws
  | .int i, _, ws => one_word (itx_c i) ws
  | .tup xs, h, ws => by
    have ih := wdss xs h (ws ++ [[40]])
    have e : exp (wr (.tup xs)) = [32, 40, 32] ++ (exp (joinL [32] (wrs xs)) ++ [32, 41, 32]) := by
      show exp (40 :: (joinL [32] (wrs xs) ++ [41])) = _
      rw [← List.singleton_append, exp_app, exp_app]
      rfl
    have n40 : Unicode.isSpace 40 = false := by decide +kernel
    have n41 : Unicode.isSpace 41 = false := by decide +kernel
    rw [e, List.foldl_append, List.foldl_append]
    have e1 : [32, 40, 32].foldl TL.wstep (ws, []) = (ws ++ [[40]], []) := by
      show TL.wstep (TL.wstep (TL.wstep (ws, []) 32) 40) 32 = _
      rw [wstep_sp, wstep_c n40, wstep_sp]
      rfl
    rw [e1]
    generalize (exp (joinL [32] (wrs xs))).foldl TL.wstep (ws ++ [[40]], []) = st at ih
    show TL.wfin (TL.wstep (TL.wstep (TL.wstep st 32) 41) 32) = _
    rw [wstep_sp, wstep_c n41, wstep_sp, ih]
    show TL.wfin (ws ++ [[40]] ++ tokss xs ++ [[41]], []) = ws ++ ([40] :: (tokss xs ++ [[41]]))
    unfold TL.wfin
    simp
theorem wdss : ∀ (xs : List Nt), Oks xs → ∀ ws, TL.wfin ((exp (joinL [32] (wrs xs))).foldl TL.wstep (ws, [])) = ws ++ tokss xs
  | [], _, ws => by
    show TL.wfin (ws, []) = ws ++ []
    unfold TL.wfin
    simp
  | [x], h, ws => by
    have := wds x h.1 ws
    show TL.wfin ((exp (wr x)).foldl TL.wstep (ws, [])) = ws ++ (toks x ++ [])
    rw [this, List.append_nil]
  | x :: y :: xs, h, ws => by
    have h1 := wds x h.1 ws
    have h2 := wdss (y :: xs) h.2 (ws ++ toks x)
    show TL.wfin ((exp (wr x ++ ([32] ++ joinL [32] (wrs (y :: xs))))).foldl TL.wstep (ws, [])) = ws ++ (toks x ++ tokss (y :: xs))
    rw [exp_app, exp_app, List.foldl_append, List.foldl_append]
    generalize (exp (wr x)).foldl TL.wstep (ws, []) = st at h1
    have e : (exp [32]).foldl TL.wstep st = (ws ++ toks x, []) := by
      show TL.wstep st 32 = _
      rw [wstep_sp, h1]
    rw [e, h2, List.append_assoc]
end
theorem words_note {n : Nt} (h : Ok n) : Txt.words (GG.S (exp (wr n))) = (toks n).map GG.S := by
  refine TL.map_tl_inj ?_
  rw [TL.words_tl, SX.map_S_tl]
  have e : TL.tl (GG.S (exp (wr n))) = exp (wr n) := GG.S_cps _
  rw [e, wds n h, List.nil_append]
/-! ### the note of the words -/
def pstep (s : List Nt × List (List Nt)) (t : List Nat) : Option (List Nt × List (List Nt)) :=
  if t = [40] then some ([], s.1 :: s.2)
  else if t = [41] then (match s.2 with | [] => none | r :: o => some (r ++ [.tup s.1], o))
  else some (s.1 ++ [tnote t], s.2)
def prun (s : List Nt × List (List Nt)) : List (List Nat) → Option (List Nt × List (List Nt))
  | [] => some s
  | t :: ts => (pstep s t).bind fun s' => prun s' ts
theorem prun_app (s : List Nt × List (List Nt)) : ∀ (a b : List (List Nat)), prun s (a ++ b) = (prun s a).bind fun s' => prun s' b := by
  intro a
  induction a generalizing s with
  | nil => intro b; rfl
  | cons t a ih =>
    intro b
    show (pstep s t).bind (fun s' => prun s' (a ++ b)) = ((pstep s t).bind fun s' => prun s' a).bind fun s' => prun s' b
    cases pstep s t with
    | none => rfl
    | some s' => exact ih s' b
theorem prun_one {s : List Nt × List (List Nt)} {t : List Nat} {n : Nt} (h : t ≠ [40] ∧ t ≠ [41] ∧ tnote t = n) : prun s [t] = some (s.1 ++ [n], s.2) := by
  show (pstep s t).bind _ = _
  unfold pstep
  rw [if_neg h.1, if_neg h.2.1, h.2.2]
  rfl
theorem tok_ne {t : List Nat} {n : Nt} (h : Tok t n) : t ≠ [40] ∧ t ≠ [41] ∧ tnote t = n := by
  obtain ⟨⟨d, ds, rfl, hd, _⟩, h2, _⟩ := h
  refine ⟨fun z => ?_, fun z => ?_, h2⟩ <;> (injection z with z _; rw [z] at hd; exact absurd hd (by decide))
mutual
theorem pruns : ∀ (n : Nt), Ok n → ∀ s, prun s (toks n) = some (s.1 ++ [n], s.2)
  | .non, _, s => prun_one (tok_ne tok_non)
  | .wd l, h, s => prun_one (tok_ne (tok_word h))
  | .int i, h, s => prun_one (tok_ne (tok_int h))
  | .tup xs, h, s => by
    show prun s ([[40]] ++ (tokss xs ++ [[41]])) = _
    rw [prun_app]
    show prun ([], s.1 :: s.2) (tokss xs ++ [[41]]) = _
    rw [prun_app, prunss xs h]
    rfl
theorem prunss : ∀ (xs : List Nt), Oks xs → ∀ s, prun s (tokss xs) = some (s.1 ++ xs, s.2)
  | [], _, s => by
    show some s = _
    rw [List.append_nil]
  | x :: xs, h, s => by
    show prun s (toks x ++ tokss xs) = _
    rw [prun_app, pruns x h.1]
    show prun (s.1 ++ [x], s.2) (tokss xs) = _
    rw [prunss xs h.2]
    simp
end
theorem prun_take {ts : List (List Nat)} {s s' : List Nt × List (List Nt)} (h : prun s ts = some s') (i : Nat) : ∃ s1, prun s (ts.take i) = some s1 := by
  rw [← List.take_append_drop i ts, prun_app] at h
  cases e : prun s (ts.take i) with
  | none => rw [e] at h; cases h
  | some s1 => exact ⟨s1, rfl⟩
theorem prun_step {ts : List (List Nat)} {s s1 s2 : List Nt × List (List Nt)} {i : Nat} {t : List Nat} (h1 : prun s (ts.take i) = some s1) (ht : ts[i]? = some t) (h2 : prun s (ts.take (i + 1)) = some s2) : pstep s1 t = some s2 := by
  rw [List.take_succ, ht, prun_app, h1] at h2
  show pstep s1 t = _
  have e : prun s1 [t] = pstep s1 t := by
    show (pstep s1 t).bind (fun s' => some s') = _
    cases pstep s1 t <;> rfl
  rw [← e]
  exact h2
/-! the words are brackets, or tokens of a note -/
mutual
theorem toks_ok : ∀ (n : Nt), Ok n → ∀ t ∈ toks n, t = [40] ∨ t = [41] ∨ ∃ m, Ok m ∧ t = wr m ∧ (m = .non ∨ (∃ l, m = .wd l) ∨ ∃ i, m = .int i)
  | .non, h, t, ht => .inr (.inr ⟨.non, h, by simpa [toks, wr] using ht, .inl rfl⟩)
  | .wd l, h, t, ht => .inr (.inr ⟨.wd l, h, by simpa [toks, wr] using ht, .inr (.inl ⟨l, rfl⟩)⟩)
  | .int i, h, t, ht => .inr (.inr ⟨.int i, h, by simpa [toks, wr] using ht, .inr (.inr ⟨i, rfl⟩)⟩)
  | .tup xs, h, t, ht => by
    have ht' : t = [40] ∨ t ∈ tokss xs ∨ t = [41] := by simpa [toks] using ht
    rcases ht' with h1 | h1 | h1
    · exact .inl h1
    · exact tokss_ok xs h t h1
    · exact .inr (.inl h1)
theorem tokss_ok : ∀ (xs : List Nt), Oks xs → ∀ t ∈ tokss xs, t = [40] ∨ t = [41] ∨ ∃ m, Ok m ∧ t = wr m ∧ (m = .non ∨ (∃ l, m = .wd l) ∨ ∃ i, m = .int i)
  | [], _, t, ht => nomatch ht
  | x :: xs, h, t, ht => by
    rcases List.mem_append.mp (show t ∈ toks x ++ tokss xs from ht) with h1 | h1
    · exact toks_ok x h.1 t h1
    · exact tokss_ok xs h.2 t h1
end
theorem pstep_len {s s' : List Nt × List (List Nt)} {t : List Nat} {i : Nat} (h : pstep s t = some s') (hl : ∀ r ∈ s.1 :: s.2, r.length ≤ i) : ∀ r ∈ s'.1 :: s'.2, r.length ≤ i + 1 := by
  unfold pstep at h
  split at h
  · cases h
    intro r hr
    rcases List.mem_cons.mp hr with rfl | hr
    · simp
    · have := hl r hr
      omega
  · split at h
    · obtain ⟨c, o⟩ := s
      cases o with
      | nil => cases h
      | cons r o =>
        cases h
        intro x hx
        rcases List.mem_cons.mp hx with rfl | hx
        · have := hl r (.tail _ (.head _))
          simp
          omega
        · have := hl x (.tail _ (.tail _ hx))
          omega
    · cases h
      intro x hx
      rcases List.mem_cons.mp hx with rfl | hx
      · have := hl s.1 (.head _)
        simp
        omega
      · have := hl x (.tail _ hx)
        omega
theorem pstep_out {s s' : List Nt × List (List Nt)} {t : List Nat} (h : pstep s t = some s') : s'.2.length ≤ s.2.length + 1 := by
  unfold pstep at h
  split at h
  · cases h
    simp
  · split at h
    · obtain ⟨c, o⟩ := s
      cases o with
      | nil => cases h
      | cons r o =>
        cases h
        simp
        omega
    · cases h
      simp
theorem itx_text {j : Int} (h : j.natAbs < 10 ^ 200) : intText? ⟨(itx j).toArray⟩ = some j := by
  have hl := dig_len 200 j.natAbs h (by decide)
  have e := int_text (ng := decide (j < 0)) (dig_num j.natAbs) (by omega)
  rw [dig_val] at e
  unfold itx
  by_cases hj : j < 0
  · rw [if_pos hj]
    rw [decide_eq_true hj, if_pos rfl] at e
    rw [e]
    unfold sg
    rw [if_pos rfl]
    congr 1
    omega
  · rw [if_neg hj]
    rw [decide_eq_false hj, if_neg Bool.false_ne_true] at e
    rw [e]
    unfold sg
    rw [if_neg Bool.false_ne_true]
    congr 1
    omega
end GN

namespace K08
open PySem L2 GG PyProof.Rows
def top (i : Nat) : Stmt := PySem.Challenge.pw_gangbooks_k08_note_first_wrong.main.body.getD i (.Pass ⟨0, 0, 0, 0⟩)
abbrev s__law_draw : Stmt := (top 20)
abbrev s__law_pool : Stmt := (top 19)
abbrev s_write_note : Stmt := (top 13)
abbrev s_goes_on : Stmt := (top 16)
abbrev s_token_note : Stmt := (top 17)
abbrev s_close_row : Stmt := (top 15)
abbrev s_read_note : Stmt := (top 14)
abbrev s__law_word : Stmt := (top 21)
abbrev s__law_integer : Stmt := (top 22)
abbrev s__law_leaf : Stmt := (top 23)
abbrev s__law_whole : Stmt := (top 26)
abbrev s__law_same : Stmt := (top 27)
abbrev s__law_close : Stmt := (top 24)
abbrev s__law_note : Stmt := (top 25)
abbrev s__law_next : Stmt := (top 28)
abbrev s__law_wrong : Stmt := (top 29)
abbrev s__law_char : Stmt := (top 32)
abbrev s__law_odd : Stmt := (top 34)
abbrev s__law_changed : Stmt := (top 33)
abbrev s__law_parsed : Stmt := (top 30)
abbrev s__law_asked : Stmt := (top 31)
abbrev s_law : Stmt := (top 35)
theorem sc__law_draw : FnScope ["_law_pool_here", "_law_many", "_law_first", "_law_second", "_law_found"] ["_law_pool_here", "_law_many"] (defScope s__law_draw) := ⟨rfl, rfl, rfl, by decide +kernel, rfl, by decide +kernel, by decide +kernel⟩
theorem sc__law_pool : FnScope ["_law_script", "_law_pool_here", "_law_cell"] ["_law_script"] (defScope s__law_pool) := ⟨rfl, rfl, rfl, by decide +kernel, rfl, by decide +kernel, by decide +kernel⟩
theorem sc_write_note : FnScope ["note", "texts", "item"] ["note"] (defScope s_write_note) := ⟨rfl, rfl, rfl, by decide +kernel, rfl, by decide +kernel, by decide +kernel⟩
theorem sc_goes_on : FnScope ["token", "char"] ["token", "char"] (defScope s_goes_on) := ⟨rfl, rfl, rfl, by decide +kernel, rfl, by decide +kernel, by decide +kernel⟩
theorem sc_token_note : FnScope ["token"] ["token"] (defScope s_token_note) := ⟨rfl, rfl, rfl, by decide +kernel, rfl, by decide +kernel, by decide +kernel⟩
theorem sc_close_row : FnScope ["rows", "items"] ["rows"] (defScope s_close_row) := ⟨rfl, rfl, rfl, by decide +kernel, rfl, by decide +kernel, by decide +kernel⟩
theorem sc_read_note : FnScope ["text", "rows", "token", "last", "at", "char", "inside"] ["text"] (defScope s_read_note) := ⟨rfl, rfl, rfl, by decide +kernel, rfl, by decide +kernel, by decide +kernel⟩
theorem sc__law_word : FnScope ["_law_pool_here", "_law_letters", "_law_size", "_law_word_here", "_law_k"] ["_law_pool_here"] (defScope s__law_word) := ⟨rfl, rfl, rfl, by decide +kernel, rfl, by decide +kernel, by decide +kernel⟩
theorem sc__law_integer : FnScope ["_law_pool_here", "_law_way", "_law_number", "_law_count", "_law_k"] ["_law_pool_here"] (defScope s__law_integer) := ⟨rfl, rfl, rfl, by decide +kernel, rfl, by decide +kernel, by decide +kernel⟩
theorem sc__law_leaf : FnScope ["_law_pool_here", "_law_kind"] ["_law_pool_here"] (defScope s__law_leaf) := ⟨rfl, rfl, rfl, by decide +kernel, rfl, by decide +kernel, by decide +kernel⟩
theorem sc__law_whole : FnScope ["_law_value"] ["_law_value"] (defScope s__law_whole) := ⟨rfl, rfl, rfl, by decide +kernel, rfl, by decide +kernel, by decide +kernel⟩
theorem sc__law_same : FnScope ["_law_told", "_law_note_here", "_law_most", "_law_left", "_law_k", "_law_one", "_law_other"] ["_law_told", "_law_note_here", "_law_most"] (defScope s__law_same) := ⟨rfl, rfl, rfl, by decide +kernel, rfl, by decide +kernel, by decide +kernel⟩
theorem sc__law_close : FnScope ["_law_rows", "_law_texts", "_law_row", "_law_text"] ["_law_rows", "_law_texts"] (defScope s__law_close) := ⟨rfl, rfl, rfl, by decide +kernel, rfl, by decide +kernel, by decide +kernel⟩
theorem sc__law_note : FnScope ["_law_pool_here", "_law_rows", "_law_texts", "_law_many", "_law_k", "_law_way", "_law_leaf_here"] ["_law_pool_here"] (defScope s__law_note) := ⟨rfl, rfl, rfl, by decide +kernel, rfl, by decide +kernel, by decide +kernel⟩
theorem sc__law_next : FnScope ["_law_mode", "_law_size", "_law_depth", "_law_char_here", "_law_letters"] ["_law_mode", "_law_size", "_law_depth", "_law_char_here"] (defScope s__law_next) := ⟨rfl, rfl, rfl, by decide +kernel, rfl, by decide +kernel, by decide +kernel⟩
theorem sc__law_wrong : FnScope ["_law_text", "_law_mode", "_law_size", "_law_depth", "_law_at", "_law_later"] ["_law_text"] (defScope s__law_wrong) := ⟨rfl, rfl, rfl, by decide +kernel, rfl, by decide +kernel, by decide +kernel⟩
theorem sc__law_char : FnScope ["_law_pool_here", "_law_chars"] ["_law_pool_here"] (defScope s__law_char) := ⟨rfl, rfl, rfl, by decide +kernel, rfl, by decide +kernel, by decide +kernel⟩
theorem sc__law_odd : FnScope ["_law_at", "_law_odd_here"] ["_law_at"] (defScope s__law_odd) := ⟨rfl, rfl, rfl, by decide +kernel, rfl, by decide +kernel, by decide +kernel⟩
theorem sc__law_changed : FnScope ["_law_pool_here", "_law_text", "_law_how", "_law_at", "_law_char_here"] ["_law_pool_here", "_law_text"] (defScope s__law_changed) := ⟨rfl, rfl, rfl, by decide +kernel, rfl, by decide +kernel, by decide +kernel⟩
theorem sc__law_parsed : FnScope ["_law_text", "_law_rows", "_law_word_here", "_law_row"] ["_law_text"] (defScope s__law_parsed) := ⟨rfl, rfl, rfl, by decide +kernel, rfl, by decide +kernel, by decide +kernel⟩
theorem sc__law_asked : FnScope ["_law_text", "_law_wrong_here", "e", "_law_told"] ["_law_text"] (defScope s__law_asked) := ⟨rfl, rfl, rfl, by decide +kernel, rfl, by decide +kernel, by decide +kernel⟩
theorem sc_law : FnScope ["_law_script", "_law_pool_here", "_law_text", "_law_k", "_law_spoilt", "_law_turn"] ["_law_script"] (defScope s_law) := ⟨rfl, rfl, rfl, by decide +kernel, rfl, by decide +kernel, by decide +kernel⟩
structure Ad where
  K : PySem.W.Frag
  GangError : Addr
  BadNote : Addr
  BadLine : Addr
  BadCertificate : Addr
  fE : Addr
structure Txt (K : PySem.W.Frag) (mg : Str → Option Value) (c : Ad) : Prop where
  kk : c.K = K
  b_ValueError : mg "ValueError" = none
  b_len : mg "len" = none
  b_int : mg "int" = none
  b_str : mg "str" = none
  b_isinstance : mg "isinstance" = none
  b_bool : mg "bool" = none
  b_range : mg "range" = none
  b_list : mg "list" = none
  b_zip : mg "zip" = none
  b_tuple : mg "tuple" = none
  b_enumerate : mg "enumerate" = none
  g_GangError : mg "GangError" = some (.ref c.GangError)
  g_BadNote : mg "BadNote" = some (.ref c.BadNote)
  g_BadLine : mg "BadLine" = some (.ref c.BadLine)
  g_BadCertificate : mg "BadCertificate" = some (.ref c.BadCertificate)
  e_BadNote : PySem.GErr.ErrTxt K mg "BadNote" c.BadNote c.fE
  x_BadNote_GangError : PySem.W.exmOne K (.ref c.BadNote) (.ref c.GangError) = some true
  k_BadNote_BadNote : PySem.W.kitOne K (.ref c.BadNote) (.ref c.BadNote) = some true
  k_BadNote_ValueError : PySem.W.kitOne K (.ref c.BadNote) (.type "ValueError") = some true
  k_BadNote_BadLine : PySem.W.kitOne K (.ref c.BadNote) (.ref c.BadLine) = some false
  k_BadNote_BadCertificate : PySem.W.kitOne K (.ref c.BadNote) (.ref c.BadCertificate) = some false
  k_DIGITS : ∃ u, mg "DIGITS" = some u ∧ RelV (.str (Str.ofString "0123456789")) u
  k_LETTERS : ∃ u, mg "LETTERS" = some u ∧ RelV (.str (Str.ofString "abcdefghijklmnopqrstuvwxyz")) u
  k_FIRST_CHARS : ∃ u, mg "FIRST_CHARS" = some u ∧ RelV (.str (Str.ofString "abcdefghijklmnopqrstuvwxyz0123456789-")) u
  k_WORD_CHARS : ∃ u, mg "WORD_CHARS" = some u ∧ RelV (.str (Str.ofString "abcdefghijklmnopqrstuvwxyz0123456789-:")) u
  k_LONGEST_WORD : ∃ u, mg "LONGEST_WORD" = some u ∧ RelV (.int 24) u
  k_LONGEST_NUMBER : ∃ u, mg "LONGEST_NUMBER" = some u ∧ RelV (.int 200) u
  k_DEEPEST : ∃ u, mg "DEEPEST" = some u ∧ RelV (.int 100) u
def spLaw (K : PySem.W.Frag) : Sp := fun vs H Q _ => vs.length = 1 ∧ ∃ (a : Addr) (ns : List Int), vs = [.ref a] ∧ SqL K H a (ns.map V.int) ∧ ns.length ≤ 63 ∧ (∀ n ∈ ns, Builtin.Int.intBits n ≤ 1048576) ∧ ∀ H', Q (.bl true) H'
/-- the pool of a law: three small numbers, a count, great numbers -/
def Pool (H : Hp) (p : Addr) : Prop := ∃ a b c n : Int, ∃ hs : List Int, H p = some (.lst (.int a :: .int b :: .int c :: .int n :: hs.map V.int)) ∧ (0 ≤ a ∧ a < 101) ∧ (0 ≤ b ∧ b < 103) ∧ (0 ≤ c ∧ c < 1009) ∧ hs.length ≤ 63
theorem putF_ne {f g : Str} {v x : V} {r : List (Str × V)} (h : ¬ g = f) : putF f v ((g, x) :: r) = (g, x) :: putF f v r := by
  show (if g = f then _ else _) = _
  rw [if_neg h]
theorem ints_at {ns : List Int} {i : Nat} {x : V} (hx : (ns.map V.int)[i]? = some x) : ∃ z, x = V.int z := by
  rw [List.getElem?_map] at hx
  cases q : ns[i]? with
  | none => rw [q] at hx; cases hx
  | some z => rw [q] at hx; exact ⟨z, (Option.some.inj hx).symm⟩
theorem map_at {α : Type} {f : α → V} {l : List α} {i : Nat} {x : V} (h : (l.map f)[i]? = some x) : ∃ r, l[i]? = some r ∧ x = f r := by
  rw [List.getElem?_map] at h
  cases q : l[i]? with
  | none => rw [q] at h; cases h
  | some r => rw [q] at h; exact ⟨r, rfl, (Option.some.inj h).symm⟩
theorem Pool.ext {H H' : Hp} {p : Addr} (h : Pool H p) (e : Ext H H') : Pool H' p := by
  obtain ⟨a, b, c, n, hs, h1, r⟩ := h
  exact ⟨a, b, c, n, hs, e.look h1, r⟩
theorem Pool.lst {H : Hp} {p : Addr} (h : Pool H p) : ∃ xs, H p = some (.lst xs) := by
  obtain ⟨a, b, c, n, hs, h1, r⟩ := h
  exact ⟨_, h1⟩
theorem Pool.ne {H : Hp} {p q : Addr} (h : Pool H p) (nq : H q = none) : q ≠ p := by
  obtain ⟨xs, h1⟩ := h.lst
  exact Ne.symm (ne_of_none h1 nq)
theorem Pool.but {H H' : Hp} {p q : Addr} (h : Pool H p) (e : But q H H') (n : q ≠ p) : Pool H' p := by
  obtain ⟨a, b, c, n', hs, h1, r⟩ := h
  exact ⟨a, b, c, n', hs, e.look (Ne.symm n) h1, r⟩

open GN
mutual
def NtV (H : Hp) : Nt → V → Prop
  | .non, v => v = .non
  | .wd l, v => v = .str (S l)
  | .int i, v => v = .int i
  | .tup xs, v => ∃ a vs, v = .ref a ∧ H a = some (.tup vs) ∧ NtVs H xs vs
def NtVs (H : Hp) : List Nt → List V → Prop
  | [], vs => vs = []
  | x :: xs, vs => ∃ v ws, vs = v :: ws ∧ NtV H x v ∧ NtVs H xs ws
end
mutual
theorem NtV.mono {H H' : Hp} (h : ∀ a vs, H a = some (.tup vs) → H' a = some (.tup vs)) : ∀ (n : Nt) (v : V), NtV H n v → NtV H' n v
  | .non, _, q => q
  | .wd _, _, q => q
  | .int _, _, q => q
  | .tup xs, _, q => by
    obtain ⟨a, vs, e, ha, hs⟩ := q
    exact ⟨a, vs, e, h a vs ha, NtVs.mono h xs vs hs⟩
theorem NtVs.mono {H H' : Hp} (h : ∀ a vs, H a = some (.tup vs) → H' a = some (.tup vs)) : ∀ (xs : List Nt) (vs : List V), NtVs H xs vs → NtVs H' xs vs
  | [], _, q => q
  | x :: xs, _, q => by
    obtain ⟨v, ws, e, h1, h2⟩ := q
    exact ⟨v, ws, e, NtV.mono h x v h1, NtVs.mono h xs ws h2⟩
end
theorem _root_.GG.Ext.tups {H H' : Hp} (e : Ext H H') : ∀ a vs, H a = some (.tup vs) → H' a = some (.tup vs) := fun a vs h => e a _ h
theorem _root_.GG.But.tups {H H' : Hp} {l : Addr} {zs : List V} (e : But l H H') (hl : H l = some (.lst zs)) : ∀ a vs, H a = some (.tup vs) → H' a = some (.tup vs) := fun a vs h => e.lookK hl h (by intro z; cases z)
theorem NtVs.len {H : Hp} : ∀ {xs : List Nt} {vs : List V}, NtVs H xs vs → vs.length = xs.length
  | [], vs, q => by rw [show vs = [] from q]; rfl
  | x :: xs, _, q => by
    obtain ⟨v, ws, rfl, _, h2⟩ := q
    rw [List.length_cons, List.length_cons, NtVs.len h2]
theorem NtVs.at {H : Hp} : ∀ {xs : List Nt} {vs : List V} {i : Nat} {v : V}, NtVs H xs vs → vs[i]? = some v → ∃ x, xs[i]? = some x ∧ NtV H x v
  | [], vs, i, v, q, hv => by rw [show vs = [] from q] at hv; simp at hv
  | x :: xs, _, i, v, q, hv => by
    obtain ⟨u, ws, rfl, h1, h2⟩ := q
    cases i with
    | zero => exact ⟨x, rfl, by obtain rfl := Option.some.inj hv; exact h1⟩
    | succ i => exact NtVs.at (i := i) h2 hv
theorem NtVs.snoc {H : Hp} : ∀ {xs : List Nt} {vs : List V} {n : Nt} {v : V}, NtVs H xs vs → NtV H n v → NtVs H (xs ++ [n]) (vs ++ [v])
  | [], vs, n, v, q, h => by rw [show vs = [] from q]; exact ⟨v, [], rfl, h, rfl⟩
  | x :: xs, _, n, v, q, h => by
    obtain ⟨u, ws, rfl, h1, h2⟩ := q
    exact ⟨u, ws ++ [v], rfl, h1, NtVs.snoc h2 h⟩
theorem wrs_at : ∀ {xs : List Nt} {i : Nat} {x : Nt}, xs[i]? = some x → (wrs xs)[i]? = some (wr x)
  | x :: xs, 0, y, h => by obtain rfl := Option.some.inj h; rfl
  | x :: xs, i + 1, y, h => wrs_at (i := i) (xs := xs) h
theorem wrs_len : ∀ {xs : List Nt}, (wrs xs).length = xs.length
  | [] => rfl
  | x :: xs => by show (wrs xs).length + 1 = _; rw [wrs_len]; rfl
theorem depth_at : ∀ {xs : List Nt} {i : Nat} {x : Nt}, xs[i]? = some x → depth x ≤ depths xs
  | x :: xs, 0, y, h => by obtain rfl := Option.some.inj h; exact Nat.le_max_left _ _
  | x :: xs, i + 1, y, h => Nat.le_trans (depth_at (i := i) (xs := xs) h) (Nat.le_max_right _ _)
theorem joinL_len : ∀ {ls : List (List Nat)}, (joinL [32] ls).length + 1 = (ls.map List.length).sum + ls.length ∨ (ls = [] ∧ joinL [32] ls = [])
  | [] => .inr ⟨rfl, rfl⟩
  | [p] => .inl (by simp [joinL])
  | p :: q :: r => .inl (by
    rcases joinL_len (ls := q :: r) with h | ⟨h, _⟩
    · simp only [joinL, List.length_append, List.length_cons, List.length_nil, List.map_cons, List.sum_cons] at h ⊢
      omega
    · cases h)
theorem le_joinL : ∀ {ls : List (List Nat)} {l : List Nat}, l ∈ ls → l.length ≤ (joinL [32] ls).length
  | [p], l, h => by rw [List.mem_singleton.mp h]; exact Nat.le_refl _
  | p :: q :: r, l, h => by
    simp only [joinL, List.length_append]
    rcases List.mem_cons.mp h with rfl | h
    · omega
    · have := le_joinL (ls := q :: r) h
      omega
theorem join_S : ∀ {ls : List (List Nat)}, Str.join (Str.ofString " ") (ls.map S) = S (joinL [32] ls)
  | [] => rfl
  | [p] => rfl
  | p :: q :: r => by
    show S p ++ Str.ofString " " ++ Str.join (Str.ofString " ") ((q :: r).map S) = _
    rw [join_S, show Str.ofString " " = S [32] from rfl, S_app, S_app]
    show S (p ++ [32] ++ joinL [32] (q :: r)) = S (p ++ ([32] ++ joinL [32] (q :: r)))
    rw [List.append_assoc]
theorem toString_itx (i : Int) : (toString i : Str) = S (itx i) := by
  rw [S_of (toString i : Str)]
  congr 1
  cases i with
  | ofNat m =>
    show (Str.ofString (toString ((m : Nat) : Int))).cps.toList = _
    rw [PySem.W.KIN.signs_num]
    unfold itx
    rw [if_neg (by show ¬ ((m : Nat) : Int) < 0; omega)]
    rfl
  | negSucc m =>
    show (Str.ofString ("-" ++ Nat.repr (m + 1))).cps.toList = _
    rw [signs_ofString, String.toList_append, List.map_append, Nat.toList_repr]
    unfold itx
    rw [if_pos (by omega)]
    rfl
theorem glue_S {ls : List (List Nat)} : Txt.join (Str.ofString " ") (ls.map S) = S (joinL [32] ls) := by
  show Builtin.Str.glued _ _ = _
  rw [StrLaws.glued_eq_join, join_S]
theorem rng_S {ls : List (List Nat)} {n : Nat} (h : n = ls.length) : (List.range n).map (fun i => V.str (S (ls.getD i []))) = (ls.map S).map V.str := by
  subst h
  apply List.ext_getElem?
  intro i
  rw [List.getElem?_map, List.getElem?_map, List.getElem?_map]
  by_cases h : i < ls.length
  · have e : ls.getD i [] = ls[i] := by rw [List.getD_eq_getElem?_getD, List.getElem?_eq_getElem h]; rfl
    rw [List.getElem?_range h, List.getElem?_eq_getElem h]
    simp only [Option.map_some, e]
  · rw [List.getElem?_eq_none (by simp; omega), List.getElem?_eq_none (by omega)]
    rfl
theorem ok_at : ∀ {xs : List Nt} {i : Nat} {x : Nt}, Oks xs → xs[i]? = some x → Ok x
  | x :: xs, 0, y, q, h => by obtain rfl := Option.some.inj h; exact q.1
  | x :: xs, i + 1, y, q, h => ok_at (i := i) (xs := xs) q.2 h
theorem wr_tup_len {xs : List Nt} : (wr (.tup xs)).length = (joinL [32] (wrs xs)).length + 2 := by
  show (40 :: (joinL [32] (wrs xs) ++ [41])).length = _
  simp
theorem mem_letters (d : Nat) : decide (d ∈ (Str.ofString "abcdefghijklmnopqrstuvwxyz").cps.toList) = letter d := by
  rw [show (Str.ofString "abcdefghijklmnopqrstuvwxyz").cps.toList = (List.range 26).map (· + 97) from by decide +kernel]
  unfold letter
  rw [Bool.eq_iff_iff]
  simp
  constructor
  · rintro ⟨a, h1, h2⟩; omega
  · intro h; exact ⟨d - 97, by omega, by omega⟩
theorem mem_digits (d : Nat) : decide (d ∈ (Str.ofString "0123456789").cps.toList) = digit d := by
  rw [show (Str.ofString "0123456789").cps.toList = (List.range 10).map (· + 48) from by decide +kernel]
  unfold digit
  rw [Bool.eq_iff_iff]
  simp
  constructor
  · rintro ⟨a, h1, h2⟩; omega
  · intro h; exact ⟨d - 48, by omega, by omega⟩
theorem mem_firsts (d : Nat) : decide (d ∈ (Str.ofString "abcdefghijklmnopqrstuvwxyz0123456789-").cps.toList) = firstc d := by
  have h1 := mem_letters d
  have h2 := mem_digits d
  rw [show (Str.ofString "abcdefghijklmnopqrstuvwxyz0123456789-").cps.toList = (Str.ofString "abcdefghijklmnopqrstuvwxyz").cps.toList ++ ((Str.ofString "0123456789").cps.toList ++ [45]) from by decide +kernel]
  unfold firstc
  rw [← h1, ← h2, Bool.eq_iff_iff]
  simp only [List.mem_append, List.mem_singleton, decide_eq_true_eq, Bool.or_eq_true, beq_iff_eq, or_assoc]
theorem mem_words (d : Nat) : decide (d ∈ (Str.ofString "abcdefghijklmnopqrstuvwxyz0123456789-:").cps.toList) = wordc d := by
  have h1 := mem_letters d
  have h2 := mem_digits d
  rw [show (Str.ofString "abcdefghijklmnopqrstuvwxyz0123456789-:").cps.toList = (Str.ofString "abcdefghijklmnopqrstuvwxyz").cps.toList ++ ((Str.ofString "0123456789").cps.toList ++ [45, 58]) from by decide +kernel]
  unfold wordc
  rw [← h1, ← h2, Bool.eq_iff_iff]
  simp only [List.mem_append, List.mem_cons, List.not_mem_nil, or_false, decide_eq_true_eq, Bool.or_eq_true, beq_iff_eq, or_assoc]
theorem remP (t : List Nat) : Txt.removeprefix (S t) (Str.ofString "-") = S (bare t) := by
  unfold Txt.removeprefix
  rw [StrLaws.subAt_eq, S_cps, show Str.ofString "-" = S [45] from rfl, S_cps, List.drop_zero, S_len, S_len]
  match t with
  | [] => rfl
  | 45 :: ds =>
    rw [if_pos (by simp)]
    show (if ((45 :: ds).length - 1 == (S (45 :: ds)).length) = true then S (45 :: ds) else Builtin.Str.strSub (S (45 :: ds)) 1 (45 :: ds).length) = S ds
    rw [if_neg (by rw [S_len]; simp)]
    unfold Builtin.Str.strSub
    simp [S]
  | c :: ds =>
    by_cases hc : c = 45
    · subst hc
      rw [if_pos (by simp)]
      show (if ((45 :: ds).length - 1 == (S (45 :: ds)).length) = true then S (45 :: ds) else Builtin.Str.strSub (S (45 :: ds)) 1 (45 :: ds).length) = S ds
      rw [if_neg (by rw [S_len]; simp)]
      unfold Builtin.Str.strSub
      simp [S]
    · rw [if_neg (by simp [hc])]
      unfold bare
      split
      · rename_i q; injection q with q _; exact absurd q hc
      · rfl
def laS : La → Str
  | .start => Str.ofString "start"
  | .token => Str.ofString "token"
  | .item => Str.ofString "item"
  | .space => Str.ofString "space"
  | .bracket => Str.ofString "bracket"
theorem paired_has {α β : Type} {R : α → β → Prop} : ∀ {as : List α} {bs : List β} {a : α}, Paired R as bs → a ∈ as → ∃ b, R a b
  | _, _, _, .cons r t, h => by
    rcases List.mem_cons.mp h with rfl | h
    · exact ⟨_, r⟩
    · exact paired_has t h
theorem paired_mem {α β : Type} {R R' : α → β → Prop} : ∀ {as : List α} {bs : List β}, Paired R as bs → (∀ a b, a ∈ as → R a b → R' a b) → Paired R' as bs
  | _, _, .nil, _ => .nil
  | _, _, .cons r t, h => .cons (h _ _ (List.mem_cons_self ..) r) (paired_mem t fun a b ha => h a b (List.mem_cons_of_mem _ ha))
/-- the rows of the reader, the innermost one r, at q; all of them younger than H0 -/
structure RowsAt (H0 H : Hp) (q : Addr) (cur : List Nt) (out : List (List Nt)) : Prop where
  ext : Ext H0 H
  nq : H0 q = none
  ex : ∃ (r : Addr) (rs : List Addr) (vs : List V), H q = some (.lst ((rs.reverse.map V.ref) ++ [.ref r])) ∧ H r = some (.lst vs) ∧ NtVs H cur vs ∧ Paired (fun a xs => ∃ ws, H a = some (.lst ws) ∧ NtVs H xs ws) rs out ∧ (q :: r :: rs).Nodup ∧ ∀ a ∈ r :: rs, H0 a = none
theorem RowsAt.grow {H0 H H' : Hp} {q : Addr} {cur : List Nt} {out : List (List Nt)} (h : RowsAt H0 H q cur out) (e : Ext H H') : RowsAt H0 H' q cur out := by
  obtain ⟨e0, nq, r0, rs, us, hq, hr0, hc, hp, hnd, hfr⟩ := h
  exact ⟨e0.trans e, nq, r0, rs, us, e.look hq, e.look hr0, NtVs.mono e.tups cur us hc, paired_mem hp fun a xs _ ⟨ws, h1, h2⟩ => ⟨ws, e.look h1, NtVs.mono e.tups xs ws h2⟩, hnd, hfr⟩
theorem rows_last {H0 H : Hp} {q : Addr} {cur : List Nt} {out : List (List Nt)} (h : RowsAt H0 H q cur out) : ∃ (r0 : Addr) (xs us : List V), H q = some (.lst (xs ++ [.ref r0])) ∧ H r0 = some (.lst us) ∧ NtVs H cur us ∧ xs.length = out.length ∧
    (∀ n v H', NtV H n v → But r0 H H' → H' r0 = some (.lst (us ++ [v])) → RowsAt H0 H' q (cur ++ [n]) out) ∧
    (∀ p H1 H', H p = none → Ext H H1 → H1 p = some (.lst []) → But q H1 H' → H' q = some (.lst (xs ++ [.ref r0] ++ [.ref p])) → RowsAt H0 H' q [] (cur :: out)) := by
  obtain ⟨e0, nq, r0, rs, us, hq, hr0, hc, hp, hnd, hfr⟩ := h
  have hlen : rs.length = out.length := hp.length
  have hnd' := hnd
  simp only [List.nodup_cons, List.mem_cons, not_or] at hnd'
  obtain ⟨⟨nq0, nqr⟩, n0r, ndr⟩ := hnd'
  refine ⟨r0, rs.reverse.map V.ref, us, hq, hr0, hc, by simp [hlen], fun n v H' hn b h' => ?_, fun p H1 H' np e1 hp1 bq hq' => ?_⟩
  · have tt := b.tups hr0
    refine ⟨fun a o z => b a o (ne_of_none z (hfr r0 (by simp))) (e0 a o z), nq, r0, rs, us ++ [v], b q _ nq0 hq, h', NtVs.snoc (NtVs.mono tt cur us hc) (NtV.mono tt n v hn), ?_, hnd, hfr⟩
    exact paired_mem hp fun a xs ha ⟨ws, h1, h2⟩ => ⟨ws, b a _ (fun z => n0r (z ▸ ha)) h1, NtVs.mono tt xs ws h2⟩
  · have hq1 := e1.look hq
    have tt : ∀ a vs, H a = some (.tup vs) → H' a = some (.tup vs) := fun a vs z => bq.tups hq1 a vs (e1.tups a vs z)
    have npq : p ≠ q := Ne.symm (ne_of_none hq np)
    have np0 : p ≠ r0 := Ne.symm (ne_of_none hr0 np)
    refine ⟨fun a o z => bq a o (ne_of_none z nq) (e1 a o (e0 a o z)), nq, p, r0 :: rs, [], ?_, bq p _ npq hp1, rfl, .cons ⟨us, bq r0 _ (Ne.symm nq0) (e1.look hr0), NtVs.mono tt cur us hc⟩ ?_, ?_, ?_⟩
    · rw [hq', List.reverse_cons, List.map_append, List.map_singleton]
    · exact paired_mem hp fun a xs ha ⟨ws, h1, h2⟩ => ⟨ws, bq a _ (fun z => nqr (z ▸ ha)) (e1.look h1), NtVs.mono tt xs ws h2⟩
    · have npr : p ∉ rs := fun z => by
        obtain ⟨b, hb⟩ := paired_has hp z
        obtain ⟨ws, hw, _⟩ := hb
        rw [np] at hw
        cases hw
      simp only [List.nodup_cons, List.mem_cons, not_or]
      exact ⟨⟨Ne.symm npq, nq0, nqr⟩, ⟨np0, npr⟩, n0r, ndr⟩
    · intro a ha
      rcases List.mem_cons.mp ha with rfl | ha
      · exact e0.free np
      · exact hfr a ha
theorem run_take {s s' : Rd} {l : List Nat} {i c : Nat} (h : GN.run GN.start (l.take i) = some s) (hc : l[i]? = some c) (hs : GN.step s c = some s') : GN.run GN.start (l.take (i + 1)) = some s' := by
  rw [List.take_add_one, hc, run_append, h]
  show (GN.step s c).bind _ = _
  rw [hs]
  rfl
theorem mem_sp (c : Nat) : decide (c ∈ (Str.ofString " )").cps.toList) = decide (c = 32 ∨ c = 41) := by
  rw [show (Str.ofString " )").cps.toList = [32, 41] from by decide +kernel]
  exact dec_congr (by simp)
theorem val_lt : ∀ (cs : List Nat) (a : Nat), PySem.NumText.AllDigits cs → cs.foldl (fun acc c => acc * 10 + (c - 48)) a < (a + 1) * 10 ^ cs.length
  | [], a, _ => by simp
  | d :: cs, a, h => by
    have hd := h d (List.mem_cons_self ..)
    have := val_lt cs (a * 10 + (d - 48)) (fun x hx => h x (List.mem_cons_of_mem _ hx))
    rw [List.foldl_cons, List.length_cons, Nat.pow_succ]
    refine Nat.lt_of_lt_of_le this ?_
    rw [Nat.mul_comm (10 ^ cs.length) 10, ← Nat.mul_assoc]
    exact Nat.mul_le_mul_right _ (by omega)
theorem digits_lt {cs : List Nat} (h : PySem.NumText.AllDigits cs) : PySem.NumText.digitsVal cs < 10 ^ cs.length := by
  have := val_lt cs 0 h
  unfold PySem.NumText.digitsVal
  simpa using this
theorem nines (n : Nat) (h1 : 1 ≤ n) (h2 : n ≤ 200) : ∃ m : Nat, intText? (S (List.replicate n [57]).flatten) = some (m : Int) ∧ m < 10 ^ 200 ∧ (S (List.replicate n [57]).flatten).length ≤ 640 := by
  have e : (List.replicate n [57]).flatten = List.replicate n 57 := by
    clear h1 h2
    induction n with
    | zero => rfl
    | succ n ih => rw [List.replicate_succ, List.flatten_cons, ih, List.replicate_succ]; rfl
  rw [e]
  have hd : PySem.NumText.AllDigits (List.replicate n 57) := fun c hc => by rw [List.eq_of_mem_replicate hc]; decide
  refine ⟨PySem.NumText.digitsVal (List.replicate n 57), ?_, ?_, ?_⟩
  · have := PySem.intText_digits (x := S (List.replicate n 57)) (by rw [S_cps]; exact hd) (by rw [S_cps]; intro z; have := congrArg List.length z; simp at this; omega) (by rw [S_len]; simp; omega)
    rw [S_cps] at this
    exact this
  · refine Nat.lt_of_lt_of_le (digits_lt hd) ?_
    rw [List.length_replicate]
    exact Nat.pow_le_pow_right (by decide) h2
  · rw [S_len]; simp; omega
theorem itx_len {i : Int} (h : i.natAbs < 10 ^ 200) : (itx i).length ≤ 201 := by
  have := dig_len 200 _ h (by decide)
  unfold itx
  split
  · simp; omega
  · omega
def LET : List Nat := [97, 98, 99, 100, 101, 102, 103, 104, 105, 106, 107, 108, 109, 110, 111, 112, 113, 114, 115, 116, 117, 118, 119, 120, 121, 122, 48, 49, 50, 51, 52, 53, 54, 55, 56, 57, 45, 58]
theorem let_S : Str.ofString "abcdefghijklmnopqrstuvwxyz0123456789-:" = S LET := by decide +kernel
theorem let_at : ∀ r : Nat, r < 38 → ∃ b, LET[r]? = some b ∧ wordc b = true := by
  intro r hr
  have : ∀ r : Fin 38, ∃ b, LET[r.val]? = some b ∧ wordc b = true := by
    intro r
    refine ⟨LET.getD r.val 0, ?_⟩
    revert r
    decide
  exact this ⟨r, hr⟩
theorem let_at26 : ∀ r : Nat, r < 26 → ∃ b, LET[r]? = some b ∧ letter b = true := by
  intro r hr
  have : ∀ r : Fin 26, ∃ b, LET[r.val]? = some b ∧ letter b = true := by
    intro r
    refine ⟨LET.getD r.val 0, ?_⟩
    revert r
    decide
  exact this ⟨r, hr⟩
mutual
def nodes : Nt → Nat
  | .tup xs => nodesL xs + 1
  | .non | .wd _ | .int _ => 1
def nodesL : List Nt → Nat
  | [] => 0
  | x :: xs => nodes x + nodesL xs
end
theorem nodesL_app : ∀ (xs ys : List Nt), nodesL (xs ++ ys) = nodesL xs + nodesL ys
  | [], ys => by show nodesL ys = 0 + nodesL ys; omega
  | x :: xs, ys => by show nodes x + nodesL (xs ++ ys) = nodes x + nodesL xs + nodesL ys; rw [nodesL_app]; omega
theorem nodes_pos (n : Nt) : 1 ≤ nodes n := by
  cases n with
  | tup xs => exact Nat.le_add_left _ _
  | non => exact Nat.le_refl _
  | wd _ => exact Nat.le_refl _
  | int _ => exact Nat.le_refl _
mutual
theorem nodes_le : ∀ (n : Nt), Ok n → nodes n ≤ (wr n).length
  | .non, _ => Nat.le_refl _
  | .wd l, h => by
    obtain ⟨a, as, rfl, _⟩ := h
    exact Nat.succ_le_succ (Nat.zero_le _)
  | .int i, _ => by
    show 1 ≤ (itx i).length
    unfold itx
    split
    · simp
    · rcases Nat.eq_zero_or_pos i.natAbs with h | h
      · rw [h, dig_zero]; decide
      · obtain ⟨d, ds, e, _⟩ := dig_head _ h
        rw [e]; simp
  | .tup xs, h => by
    rw [wr_tup_len]
    have := nodesL_le xs h
    show nodesL xs + 1 ≤ _
    omega
theorem nodesL_le : ∀ (xs : List Nt), Oks xs → nodesL xs ≤ (joinL [32] (wrs xs)).length
  | [], _ => Nat.le_refl _
  | [x], h => by
    have := nodes_le x h.1
    show nodes x + 0 ≤ (wr x).length
    omega
  | x :: y :: r, h => by
    have h1 := nodes_le x h.1
    have h2 := nodesL_le (y :: r) h.2
    show nodes x + nodesL (y :: r) ≤ (wr x ++ ([32] ++ joinL [32] (wrs (y :: r)))).length
    simp only [List.length_append, List.length_singleton]
    omega
end
theorem paired_last {α β : Type} {R : α → β → Prop} : ∀ {as : List α} {bs : List β}, Paired R as bs → as ≠ [] → ∃ as' a bs' b, as = as' ++ [a] ∧ bs = bs' ++ [b] ∧ Paired R as' bs' ∧ R a b
  | _, _, .nil, h => absurd rfl h
  | [a], [b], .cons r .nil, _ => ⟨[], a, [], b, rfl, rfl, .nil, r⟩
  | a :: a2 :: as, b :: b2 :: bs, .cons r t, _ => by
    obtain ⟨as', x, bs', y, e1, e2, h1, h2⟩ := paired_last t (by simp)
    exact ⟨a :: as', x, b :: bs', y, by rw [e1]; rfl, by rw [e2]; rfl, .cons r h1, h2⟩
theorem paired_app {α β : Type} {R : α → β → Prop} : ∀ {as cs : List α} {bs ds : List β}, Paired R as bs → Paired R cs ds → Paired R (as ++ cs) (bs ++ ds)
  | _, _, _, _, .nil, h => h
  | _, _, _, _, .cons r t, h => .cons r (paired_app t h)
theorem len_nodes : ∀ (xs : List Nt), xs.length ≤ nodesL xs
  | [] => Nat.le_refl _
  | x :: xs => by
    have h1 := nodes_pos x
    have h2 := len_nodes xs
    show xs.length + 1 ≤ nodes x + nodesL xs
    omega
theorem paired_nodes {α : Type} {R : α → Nt → Prop} {as : List α} {bs : List Nt} (h : Paired R as bs) : as.length ≤ nodesL bs := by
  rw [h.length]
  exact len_nodes bs
/-- two values of the same note, in a pair -/
def Pair2 (H : Hp) (t : Addr) (x : Nt) : Prop := ∃ v w, H t = some (.tup [v, w]) ∧ NtV H x v ∧ NtV H x w
theorem Pair2.mono {H H' : Hp} (h : ∀ a vs, H a = some (.tup vs) → H' a = some (.tup vs)) {t : Addr} {x : Nt} (p : Pair2 H t x) : Pair2 H' t x := by
  obtain ⟨v, w, h1, h2, h3⟩ := p
  exact ⟨v, w, h _ _ h1, NtV.mono h x v h2, NtV.mono h x w h3⟩
theorem pairs_zip {H : Hp} : ∀ {xs : List Nt} {vs ws : List V} {ts : List Addr}, NtVs H xs vs → NtVs H xs ws → Paired (fun t (p : V × V) => H t = some (.tup [p.1, p.2])) ts (vs.zip ws) → Paired (Pair2 H) ts xs
  | [], vs, ws, ts, h1, h2, p => by
    rw [show vs = [] from h1, show ws = [] from h2] at p
    cases p
    exact .nil
  | x :: xs, vs, ws, ts, h1, h2, p => by
    obtain ⟨v, vs', rfl, a1, a2⟩ := h1
    obtain ⟨w, ws', rfl, b1, b2⟩ := h2
    cases p with
    | cons r t => exact .cons ⟨v, w, r, a1, b1⟩ (pairs_zip a2 b2 t)

/-- a list of lists: the lists at A, with these items -/
structure Stk (H : Hp) (q : Addr) (A : List Addr) (R : List (List V)) : Prop where
  at_ : H q = some (.lst (A.map V.ref))
  rows : Paired (fun a r => H a = some (.lst r)) A R
  nd : (q :: A).Nodup
theorem Stk.keep {H H' : Hp} {q : Addr} {A : List Addr} {R : List (List V)} (h : Stk H q A R) (k : ∀ a ∈ q :: A, ∀ o, H a = some o → H' a = some o) : Stk H' q A R :=
  ⟨k q (List.mem_cons_self ..) _ h.at_, paired_mem h.rows fun a r ha z => k a (List.mem_cons_of_mem _ ha) _ z, h.nd⟩
theorem Stk.ext {H H' : Hp} {q : Addr} {A : List Addr} {R : List (List V)} (h : Stk H q A R) (e : Ext H H') : Stk H' q A R := h.keep fun a _ o z => e a o z
theorem Stk.but {H H' : Hp} {q x : Addr} {A : List Addr} {R : List (List V)} (h : Stk H q A R) (e : But x H H') (n : x ∉ q :: A) : Stk H' q A R := h.keep fun a ha o z => e a o (fun y => n (y ▸ ha)) z
theorem Stk.lst {H : Hp} {q : Addr} {A : List Addr} {R : List (List V)} (h : Stk H q A R) {a : Addr} (ha : a ∈ q :: A) : ∃ zs, H a = some (.lst zs) := by
  rcases List.mem_cons.mp ha with rfl | ha
  · exact ⟨_, h.at_⟩
  · obtain ⟨b, hb⟩ := paired_has h.rows ha
    exact ⟨b, hb⟩
theorem Stk.len {H : Hp} {q : Addr} {A : List Addr} {R : List (List V)} (h : Stk H q A R) : A.length = R.length := h.rows.length
theorem paired_snocR {α β : Type} {R : α → β → Prop} {as : List α} {bs : List β} {b : β} (h : Paired R as (bs ++ [b])) : ∃ as' a, as = as' ++ [a] ∧ R a b ∧ Paired R as' bs := by
  have hl := h.length
  obtain ⟨as', a, bs', b', rfl, e, h1, h2⟩ := paired_last h (by intro z; rw [z] at hl; simp at hl)
  obtain ⟨rfl, e2⟩ := List.append_inj' e rfl
  obtain rfl : b = b' := by simpa using e2
  exact ⟨as', a, rfl, h2, h1⟩
theorem Stk.last {H : Hp} {q : Addr} {A : List Addr} {R : List (List V)} {r : List V} (h : Stk H q A (R ++ [r])) : ∃ A' a, A = A' ++ [a] ∧ H a = some (.lst r) ∧ Paired (fun a r => H a = some (.lst r)) A' R := by
  have hl := h.len
  obtain ⟨A', a, R', r', rfl, e, h1, h2⟩ := paired_last h.rows (by intro z; rw [z] at hl; simp at hl)
  obtain ⟨rfl, e2⟩ := List.append_inj' e rfl
  obtain rfl : r = r' := by simpa using e2
  exact ⟨A', a, rfl, h2, h1⟩
theorem nd_last {q a : Addr} {A : List Addr} (h : (q :: (A ++ [a])).Nodup) : q ≠ a ∧ a ∉ A ∧ (q :: A).Nodup := by
  simp only [List.nodup_cons, List.nodup_append, List.mem_append, List.mem_singleton, not_or] at h ⊢
  exact ⟨h.1.2, fun z => h.2.2.2 a z a rfl rfl, h.1.1, h.2.1⟩
theorem Stk.app {H H' : Hp} {q a : Addr} {A : List Addr} {R : List (List V)} {r : List V} {v : V} (h : Stk H q (A ++ [a]) (R ++ [r])) (b : But a H H') (ha : H' a = some (.lst (r ++ [v]))) : Stk H' q (A ++ [a]) (R ++ [r ++ [v]]) := by
  obtain ⟨A', a', e, h1, h2⟩ := h.last
  obtain ⟨rfl, e2⟩ := List.append_inj' e rfl
  obtain rfl : a = a' := by simpa using e2
  obtain ⟨n1, n2, n3⟩ := nd_last h.nd
  exact ⟨b q _ n1 h.at_, paired_app (paired_mem h2 fun x r hx z => b x _ (fun y => n2 (y ▸ hx)) z) (.cons ha .nil), h.nd⟩
theorem Stk.pop {H H' : Hp} {q a : Addr} {A : List Addr} {R : List (List V)} {r : List V} (h : Stk H q (A ++ [a]) (R ++ [r])) (b : But q H H') (hq : H' q = some (.lst (A.map V.ref))) : Stk H' q A R := by
  obtain ⟨A', a', e, h1, h2⟩ := h.last
  obtain ⟨rfl, e2⟩ := List.append_inj' e rfl
  obtain ⟨n1, n2, n3⟩ := nd_last h.nd
  exact ⟨hq, paired_mem h2 fun x r hx z => b x _ (fun y => (List.nodup_cons.mp n3).1 (y ▸ hx)) z, n3⟩
theorem Stk.push {H H' : Hp} {q a : Addr} {A : List Addr} {R : List (List V)} (h : Stk H q A R) (ha : H a = some (.lst [])) (na : a ∉ q :: A) (b : But q H H') (hq : H' q = some (.lst (A.map V.ref ++ [.ref a]))) : Stk H' q (A ++ [a]) (R ++ [[]]) := by
  have nd := List.nodup_cons.mp h.nd
  simp only [List.mem_cons, not_or] at na
  refine ⟨by rw [hq, List.map_append, List.map_singleton], paired_app (paired_mem h.rows fun x r hx z => b x _ (fun y => nd.1 (y ▸ hx)) z) (.cons (b a _ na.1 ha) .nil), ?_⟩
  simp only [List.nodup_cons, List.nodup_append, List.mem_append, List.mem_singleton, not_or]
  exact ⟨⟨nd.1, Ne.symm na.1⟩, nd.2, ⟨by simp, by simp⟩, fun x hx y hy => by rw [hy]; exact fun z => na.2 (z ▸ hx)⟩
/-- the texts of notes -/
def txt (xs : List Nt) : List V := xs.map fun n => V.str (S (wr n))
/-- a stack of rows of notes at q, of their texts at p, younger than H0; the pool at pl -/
structure Two (H0 H : Hp) (pl q p : Addr) (N : List (List Nt)) : Prop where
  fr : But pl H0 H
  pool : Pool H pl
  pool0 : ∃ zs, H0 pl = some (.lst zs)
  ex : ∃ (A B : List Addr) (R : List (List V)), Stk H q A R ∧ Stk H p B (N.map txt) ∧ Paired (NtVs H) N R ∧ (∀ x ∈ q :: A, x ∉ p :: B) ∧ (∀ x ∈ q :: A, H0 x = none) ∧ ∀ x ∈ p :: B, H0 x = none
theorem Two.grow {H0 H H' : Hp} {pl q p : Addr} {N : List (List Nt)} (h : Two H0 H pl q p N) (e : Ext H H') : Two H0 H' pl q p N := by
  obtain ⟨f, pp, p0, A, B, R, s1, s2, c, d, f1, f2⟩ := h
  exact ⟨f.exts e, pp.ext e, p0, A, B, R, s1.ext e, s2.ext e, paired_mem c fun x r _ z => NtVs.mono e.tups x r z, d, f1, f2⟩
theorem Two.draw {H0 H H' : Hp} {pl q p : Addr} {N : List (List Nt)} (h : Two H0 H pl q p N) (b : But pl H H') (pp' : Pool H' pl) : Two H0 H' pl q p N := by
  obtain ⟨f, pp, ⟨zs, p0⟩, A, B, R, s1, s2, c, d, f1, f2⟩ := h
  obtain ⟨ys, hy⟩ := pp.lst
  have n1 : pl ∉ q :: A := fun z => by have := f1 pl z; rw [p0] at this; cases this
  have n2 : pl ∉ p :: B := fun z => by have := f2 pl z; rw [p0] at this; cases this
  exact ⟨f.trans b, pp', ⟨zs, p0⟩, A, B, R, s1.but b n1, s2.but b n2, paired_mem c fun x r _ z => NtVs.mono (b.tups hy) x r z, d, f1, f2⟩
theorem nts_snoc {H : Hp} : ∀ {N : List (List Nt)} {R : List (List V)} {cur : List Nt}, Paired (NtVs H) (N ++ [cur]) R → ∃ R' us, R = R' ++ [us] ∧ Paired (NtVs H) N R' ∧ NtVs H cur us := by
  intro N R cur h
  obtain ⟨N', c', R', us, e, rfl, h1, h2⟩ := paired_last h (by simp)
  obtain ⟨rfl, e2⟩ := List.append_inj' e rfl
  obtain rfl : cur = c' := by simpa using e2
  exact ⟨R', us, rfl, h1, h2⟩
theorem txt_snoc (xs : List Nt) (n : Nt) : txt (xs ++ [n]) = txt xs ++ [V.str (S (wr n))] := by unfold txt; rw [List.map_append]; rfl
theorem txt_len (xs : List Nt) : (txt xs).length = xs.length := by unfold txt; simp
/-- one item more in the innermost row, and its text -/
theorem Two.leaf {H0 H : Hp} {pl q p : Addr} {N : List (List Nt)} {cur : List Nt} (h : Two H0 H pl q p (N ++ [cur])) : ∃ (xs ys us : List V) (a b : Addr), H q = some (.lst (xs ++ [.ref a])) ∧ H a = some (.lst us) ∧ H p = some (.lst (ys ++ [.ref b])) ∧ H b = some (.lst (txt cur)) ∧ p ≠ a ∧ b ≠ a ∧ us.length = cur.length ∧ xs.length = N.length ∧
    ∀ n v H1 H2, NtV H n v → But a H H1 → H1 a = some (.lst (us ++ [v])) → But b H1 H2 → H2 b = some (.lst (txt cur ++ [.str (S (wr n))])) → Two H0 H2 pl q p (N ++ [cur ++ [n]]) := by
  obtain ⟨f, pp, p0, A, B, R, s1, s2, c, d, f1, f2⟩ := h
  obtain ⟨R, us, rfl, c1, c2⟩ := nts_snoc c
  rw [List.map_append, List.map_singleton] at s2
  obtain ⟨A, a, rfl, ha, _⟩ := s1.last
  obtain ⟨B, b, rfl, hb, _⟩ := s2.last
  have ma : a ∈ q :: (A ++ [a]) := by simp
  have mb : b ∈ p :: (B ++ [b]) := by simp
  have hlA := s1.len
  have hlc := c1.length
  simp at hlA
  refine ⟨A.map V.ref, B.map V.ref, us, a, b, by rw [s1.at_, List.map_append, List.map_singleton], ha, by rw [s2.at_, List.map_append, List.map_singleton], hb, fun z => d a ma (by rw [← z]; simp), fun z => d a ma (by rw [← z]; exact mb), c2.len, by simp; omega, ?_⟩
  intro n v H1 H2 hn b1 h1 b2 h2
  have na : a ≠ pl := fun z => by obtain ⟨zs, p0⟩ := p0; have := f1 a ma; rw [z, p0] at this; cases this
  have nb : b ≠ pl := fun z => by obtain ⟨zs, p0⟩ := p0; have := f2 b mb; rw [z, p0] at this; cases this
  have nba : b ∉ q :: (A ++ [a]) := fun z => d b z mb
  have nab : a ∉ p :: (B ++ [b]) := d a ma
  have s1' := (s1.app b1 h1).but b2 nba
  have s2' := (s2.but b1 nab)
  obtain ⟨zs2, hz2⟩ := s2'.lst mb
  have s2'' := s2'.app b2 h2
  have tt1 := b1.tups ha
  have tt2 := b2.tups hz2
  have tt : ∀ x vs, H x = some (.tup vs) → H2 x = some (.tup vs) := fun x vs z => tt2 x vs (tt1 x vs z)
  refine ⟨fun x o n z => ?_, (pp.but b1 na).but b2 nb, p0, A ++ [a], B ++ [b], _, s1', ?_, paired_app (paired_mem c1 fun x r _ z => NtVs.mono tt x r z) (.cons (NtVs.snoc (NtVs.mono tt cur us c2) (NtV.mono tt n v hn)) .nil), d, f1, f2⟩
  · rename_i n1
    exact b2 x o (fun y => by rw [y, f2 b mb] at z; cases z) (b1 x o (fun y => by rw [y, f1 a ma] at z; cases z) (f x o n z))
  · rw [List.map_append, List.map_singleton, txt_snoc]
    exact s2''
/-- a new empty row in both -/
theorem Two.push {H0 H : Hp} {pl q p : Addr} {N : List (List Nt)} (h : Two H0 H pl q p N) : ∃ (xs ys : List V), H q = some (.lst xs) ∧ H p = some (.lst ys) ∧ xs.length = N.length ∧ ys.length = N.length ∧ p ≠ q ∧
    ∀ a b H1 H2 H3 H4, H a = none → Ext H H1 → H1 a = some (.lst []) → But q H1 H2 → H2 q = some (.lst (xs ++ [.ref a])) → H2 b = none → Ext H2 H3 → H3 b = some (.lst []) → But p H3 H4 → H4 p = some (.lst (ys ++ [.ref b])) → Two H0 H4 pl q p (N ++ [[]]) := by
  obtain ⟨f, pp, p0, A, B, R, s1, s2, c, d, f1, f2⟩ := h
  have hlA := s1.len
  have hlB := s2.len
  have hlc := c.length
  simp at hlB
  refine ⟨_, _, s1.at_, s2.at_, by simp; omega, by simp; omega, fun z => d q (by simp) (by rw [z]; simp), ?_⟩
  intro a b H1 H2 H3 H4 na e1 h1 b2 h2 nb e3 h3 b4 h4
  have nq : q ≠ pl := fun z => by obtain ⟨zs, p0⟩ := p0; have := f1 q (by simp); rw [z, p0] at this; cases this
  have np : p ≠ pl := fun z => by obtain ⟨zs, p0⟩ := p0; have := f2 p (by simp); rw [z, p0] at this; cases this
  have naA : a ∉ q :: A := fun z => by obtain ⟨zs, hz⟩ := s1.lst z; rw [na] at hz; cases hz
  have naB : a ∉ p :: B := fun z => by obtain ⟨zs, hz⟩ := s2.lst z; rw [na] at hz; cases hz
  have s1a := s1.ext e1
  have s2a := s2.ext e1
  have s1b := s1a.push h1 naA b2 h2
  have s2b := s2a.but b2 (d q (by simp))
  have nbA : b ∉ q :: (A ++ [a]) := fun z => by obtain ⟨zs, hz⟩ := s1b.lst z; rw [nb] at hz; cases hz
  have nbB : b ∉ p :: B := fun z => by obtain ⟨zs, hz⟩ := s2b.lst z; rw [nb] at hz; cases hz
  have npA : p ∉ q :: (A ++ [a]) := fun z => by
    rcases List.mem_cons.mp z with z | z
    · exact d q (by simp) (by rw [z]; simp)
    · rcases List.mem_append.mp z with z | z
      · exact d p (List.mem_cons_of_mem _ z) (by simp)
      · rw [List.mem_singleton.mp z] at naB; exact naB (by simp)
  have s1c := s1b.ext e3
  have s2c := s2b.ext e3
  have s1d := s1c.but b4 npA
  have s2d := s2c.push h3 nbB b4 h4
  have hq1 := s1a.at_
  have hp3 := s2c.at_
  have tt : ∀ x vs, H x = some (.tup vs) → H4 x = some (.tup vs) := fun x vs z => b4.tups hp3 x vs (e3.tups x vs (b2.tups hq1 x vs (e1.tups x vs z)))
  refine ⟨fun x o n z => b4 x o (fun y => by rw [y, f2 p (by simp)] at z; cases z) (e3 x o (b2 x o (fun y => by rw [y, f1 q (by simp)] at z; cases z) (e1 x o (f x o n z)))), ((((pp.ext e1).but b2 nq).ext e3).but b4 np), p0, A ++ [a], B ++ [b], R ++ [[]], s1d, ?_, paired_app (paired_mem c fun x r _ z => NtVs.mono tt x r z) (.cons rfl .nil), ?_, ?_, ?_⟩
  · rw [List.map_append]
    exact s2d
  · intro x hx hy
    rcases List.mem_cons.mp hy with rfl | hy
    · exact npA hx
    · rcases List.mem_append.mp hy with hy | hy
      · rcases List.mem_cons.mp hx with rfl | hx
        · exact d x (by simp) (List.mem_cons_of_mem _ hy)
        · rcases List.mem_append.mp hx with hx | hx
          · exact d x (List.mem_cons_of_mem _ hx) (List.mem_cons_of_mem _ hy)
          · rw [List.mem_singleton.mp hx] at hy; exact naB (List.mem_cons_of_mem _ hy)
      · rw [List.mem_singleton.mp hy] at hx; exact nbA hx
  · intro x hx
    rcases List.mem_cons.mp hx with rfl | hx
    · exact f1 x (by simp)
    · rcases List.mem_append.mp hx with hx | hx
      · exact f1 x (List.mem_cons_of_mem _ hx)
      · rw [List.mem_singleton.mp hx]
        cases hh : H0 a with
        | none => rfl
        | some o =>
          obtain ⟨zs, p0⟩ := p0
          have : H a = some o := f a o (fun y => by obtain ⟨ys, hy⟩ := pp.lst; rw [y, hy] at na; cases na) hh
          rw [na] at this; cases this
  · intro x hx
    rcases List.mem_cons.mp hx with rfl | hx
    · exact f2 x (by simp)
    · rcases List.mem_append.mp hx with hx | hx
      · exact f2 x (List.mem_cons_of_mem _ hx)
      · rw [List.mem_singleton.mp hx]
        cases hh : H0 b with
        | none => rfl
        | some o =>
          have nbpl : b ≠ pl := fun y => by
            obtain ⟨ys, hy⟩ := ((pp.ext e1).but b2 nq).lst
            rw [y, hy] at nb; cases nb
          have nbq : b ≠ q := fun y => nbA (by rw [y]; simp)
          have : H2 b = some o := b2 b o nbq (e1 b o (f b o nbpl hh))
          rw [nb] at this; cases this
/-- the innermost row closed in both -/
theorem Two.close {H0 H : Hp} {pl q p : Addr} {N : List (List Nt)} {r cur : List Nt} (h : Two H0 H pl q p (N ++ [r] ++ [cur])) : ∃ (xs ys us us1 : List V) (a a1 b b1 : Addr), H q = some (.lst (xs ++ [.ref a1] ++ [.ref a])) ∧ H a = some (.lst us) ∧ H a1 = some (.lst us1) ∧ us1.length = r.length ∧ H p = some (.lst (ys ++ [.ref b1] ++ [.ref b])) ∧ H b = some (.lst (txt cur)) ∧ H b1 = some (.lst (txt r)) ∧
    (a ≠ q ∧ a1 ≠ q ∧ p ≠ q ∧ b ≠ q ∧ b1 ≠ q ∧ q ≠ p ∧ a1 ≠ p ∧ b ≠ p ∧ b1 ≠ p ∧ p ≠ a1 ∧ b1 ≠ a1) ∧
    ∀ t H1 H2 H3 H4 H5, But q H H1 → H1 q = some (.lst (xs ++ [.ref a1])) → Ext H1 H2 → H2 t = some (.tup us) → But p H2 H3 → H3 p = some (.lst (ys ++ [.ref b1])) → But a1 H3 H4 → H4 a1 = some (.lst (us1 ++ [.ref t])) → But b1 H4 H5 → H5 b1 = some (.lst (txt r ++ [.str (S (wr (.tup cur)))])) → Two H0 H5 pl q p (N ++ [r ++ [.tup cur]]) := by
  obtain ⟨f, pp, p0, A, B, R, s1, s2, c, d, f1, f2⟩ := h
  obtain ⟨R, us, rfl, c1, c2⟩ := nts_snoc c
  obtain ⟨R, us1, rfl, c3, c4⟩ := nts_snoc c1
  rw [List.map_append, List.map_singleton] at s2
  obtain ⟨A, a, rfl, ha, hA⟩ := s1.last
  obtain ⟨B, b, rfl, hb, hB⟩ := s2.last
  rw [List.map_append, List.map_singleton] at hB s2
  have nd1 := nd_last s1.nd
  have nd2 := nd_last s2.nd
  obtain ⟨A, a1, rfl, ha1, hA1⟩ := paired_snocR hA
  obtain ⟨B, b1, rfl, hb1, hB1⟩ := paired_snocR hB
  have nd3 := nd_last nd1.2.2
  have nd4 := nd_last nd2.2.2
  have ma : a ∈ q :: (A ++ [a1] ++ [a]) := by simp
  have ma1 : a1 ∈ q :: (A ++ [a1] ++ [a]) := by simp
  have mb : b ∈ p :: (B ++ [b1] ++ [b]) := by simp
  have mb1 : b1 ∈ p :: (B ++ [b1] ++ [b]) := by simp
  have mq : q ∈ q :: (A ++ [a1] ++ [a]) := by simp
  have mp : p ∈ p :: (B ++ [b1] ++ [b]) := by simp
  have D : ∀ x y, x ∈ q :: (A ++ [a1] ++ [a]) → y ∈ p :: (B ++ [b1] ++ [b]) → x ≠ y := fun x y hx hy z => d x hx (by rw [z]; exact hy)
  refine ⟨A.map V.ref, B.map V.ref, us, us1, a, a1, b, b1, by rw [s1.at_]; simp, ha, ha1, c4.len, by rw [s2.at_]; simp, hb, hb1, ⟨Ne.symm nd1.1, Ne.symm nd3.1, Ne.symm (D q p mq mp), Ne.symm (D q b mq mb), Ne.symm (D q b1 mq mb1), D q p mq mp, D a1 p ma1 mp, Ne.symm nd2.1, Ne.symm nd4.1, Ne.symm (D a1 p ma1 mp), Ne.symm (D a1 b1 ma1 mb1)⟩, ?_⟩
  intro t H1 H2 H3 H4 H5 b1' h1 e2 ht b3 h3 b4 h4 b5 h5
  have npl : ∀ x ∈ q :: (A ++ [a1] ++ [a]), x ≠ pl := fun x hx z => by obtain ⟨zs, p0⟩ := p0; have := f1 x hx; rw [z, p0] at this; cases this
  have npl2 : ∀ x ∈ p :: (B ++ [b1] ++ [b]), x ≠ pl := fun x hx z => by obtain ⟨zs, p0⟩ := p0; have := f2 x hx; rw [z, p0] at this; cases this
  have sub1 : ∀ x ∈ q :: (A ++ [a1]), x ∈ q :: (A ++ [a1] ++ [a]) := fun x hx => by simp at hx ⊢; rcases hx with h | h | h <;> simp [h]
  have sub2 : ∀ x ∈ p :: (B ++ [b1]), x ∈ p :: (B ++ [b1] ++ [b]) := fun x hx => by simp at hx ⊢; rcases hx with h | h | h <;> simp [h]
  have t1 := s1.pop b1' (by rw [h1]; simp)
  have t2 := s2.but b1' (d q mq)
  have t1 := t1.ext e2
  have t2 := t2.ext e2
  have hp2 := t2.at_
  have t1 := t1.but b3 (fun z => d p (sub1 p z) mp)
  have t2 := t2.pop b3 (by rw [h3]; simp)
  have q3 := t1.lst (a := a1) (by simp)
  have t1 := t1.app b4 h4
  have t2 := t2.but b4 (fun z => d a1 ma1 (sub2 a1 z))
  have q4 := t2.lst (a := b1) (by simp)
  have t1 := t1.but b5 (fun z => d b1 (sub1 b1 z) mb1)
  have t2 := t2.app b5 h5
  obtain ⟨z3, q3⟩ := q3
  obtain ⟨z4, q4⟩ := q4
  have tt1 := b1'.tups s1.at_
  have tt2 : ∀ x vs, H2 x = some (.tup vs) → H5 x = some (.tup vs) := fun x vs z => b5.tups q4 x vs (b4.tups q3 x vs (b3.tups hp2 x vs z))
  have tt : ∀ x vs, H x = some (.tup vs) → H5 x = some (.tup vs) := fun x vs z => tt2 x vs (e2.tups x vs (tt1 x vs z))
  refine ⟨fun x o n z => b5 x o (fun y => by rw [y, f2 b1 mb1] at z; cases z) (b4 x o (fun y => by rw [y, f1 a1 ma1] at z; cases z) (b3 x o (fun y => by rw [y, f2 p mp] at z; cases z) (e2 x o (b1' x o (fun y => by rw [y, f1 q mq] at z; cases z) (f x o n z))))),
    ((((pp.but b1' (npl q mq)).ext e2).but b3 (npl2 p mp)).but b4 (npl a1 ma1)).but b5 (npl2 b1 mb1), p0, A ++ [a1], B ++ [b1], _, t1, ?_, paired_app (paired_mem c3 fun x r _ z => NtVs.mono tt x r z) (.cons (NtVs.snoc (NtVs.mono tt r us1 c4) ⟨t, us, rfl, tt2 t us ht, NtVs.mono tt cur us c2⟩) .nil), fun x hx hy => d x (sub1 x hx) (sub2 x hy), fun x hx => f1 x (sub1 x hx), fun x hx => f2 x (sub2 x hx)⟩
  rw [List.map_append, List.map_singleton, txt_snoc]
  exact t2

theorem Two.one {H0 H : Hp} {pl q p : Addr} {row : List Nt} (h : Two H0 H pl q p [row]) : ∃ (a b : Addr) (us : List V), H q = some (.lst [.ref a]) ∧ H a = some (.lst us) ∧ NtVs H row us ∧ H p = some (.lst [.ref b]) ∧ H b = some (.lst (txt row)) ∧ a ≠ pl ∧ b ≠ pl ∧ q ≠ pl ∧ p ≠ pl := by
  obtain ⟨f, pp, ⟨zs, p0⟩, A, B, R, s1, s2, c, d, f1, f2⟩ := h
  cases c with
  | cons c1 c2 =>
    cases c2
    have r1 := s1.rows
    have r2 := s2.rows
    cases r1 with
    | cons a1 a2 =>
      cases a2
      cases r2 with
      | cons b1 b2 =>
        cases b2
        have ne : ∀ x, H0 x = none → x ≠ pl := fun x hx z => by rw [z, p0] at hx; cases hx
        exact ⟨_, _, _, s1.at_, a1, c1, s2.at_, b1, ne _ (f1 _ (by simp)), ne _ (f2 _ (by simp)), ne _ (f1 _ (by simp)), ne _ (f2 _ (by simp))⟩
theorem txt_eq (xs : List Nt) : txt xs = ((wrs xs).map S).map V.str := by
  unfold txt
  induction xs with
  | nil => rfl
  | cons x xs ih => rw [List.map_cons, ih]; rfl
theorem snoc_of {α : Type} {N : List α} (h : N ≠ []) : ∃ N' c, N = N' ++ [c] := ⟨N.dropLast, N.getLast h, (List.dropLast_concat_getLast h).symm⟩
theorem oks_app : ∀ {xs ys : List Nt}, Oks xs → Oks ys → Oks (xs ++ ys)
  | [], ys, _, h => h
  | x :: xs, ys, h1, h2 => ⟨h1.1, oks_app h1.2 h2⟩
theorem depths_app : ∀ {xs ys : List Nt}, depths (xs ++ ys) = max (depths xs) (depths ys)
  | [], ys => by show depths ys = max 0 (depths ys); omega
  | x :: xs, ys => by show max (depth x) (depths (xs ++ ys)) = max (max (depth x) (depths xs)) (depths ys); rw [depths_app]; omega
def rowOk (k : Nat) (r : List Nt) : Prop := Oks r ∧ depths r + k ≤ 99
theorem rowOk.leaf {k : Nat} {r : List Nt} {n : Nt} (h : rowOk k r) (ho : Ok n) (hd : depth n = 0) : rowOk k (r ++ [n]) := by
  refine ⟨oks_app h.1 ⟨ho, trivial⟩, ?_⟩
  rw [depths_app]
  have := h.2
  show max (depths r) (max (depth n) 0) + k ≤ 99
  omega
theorem rowOk.close {k : Nat} {r cur : List Nt} (h : rowOk k r) (h2 : rowOk (k + 1) cur) : rowOk k (r ++ [.tup cur]) := by
  refine ⟨oks_app h.1 ⟨h2.1, trivial⟩, ?_⟩
  rw [depths_app]
  have := h.2
  have := h2.2
  show max (depths r) (max (depths cur + 1) 0) + k ≤ 99
  omega
def GoodN : Nat → List (List Nt) → Prop
  | _, [] => True
  | k, r :: rs => rowOk k r ∧ GoodN (k + 1) rs
theorem good_snoc : ∀ {N : List (List Nt)} {k : Nat} {r : List Nt}, GoodN k (N ++ [r]) ↔ GoodN k N ∧ rowOk (k + N.length) r
  | [], k, r => ⟨fun h => ⟨trivial, h.1⟩, fun h => ⟨h.2, trivial⟩⟩
  | x :: N, k, r => by
    have ih := good_snoc (N := N) (k := k + 1) (r := r)
    show rowOk k x ∧ GoodN (k + 1) (N ++ [r]) ↔ (rowOk k x ∧ GoodN (k + 1) N) ∧ rowOk (k + (N.length + 1)) r
    rw [ih, show k + (N.length + 1) = k + 1 + N.length by omega]
    exact and_assoc.symm
def sz (r : List Nt) : Nat := ((wrs r).map List.length).sum + r.length
def tot (N : List (List Nt)) : Nat := (N.map sz).sum
theorem wrs_app : ∀ (xs ys : List Nt), wrs (xs ++ ys) = wrs xs ++ wrs ys
  | [], _ => rfl
  | x :: xs, ys => by show wr x :: wrs (xs ++ ys) = wr x :: (wrs xs ++ wrs ys); rw [wrs_app]
theorem sz_snoc (r : List Nt) (n : Nt) : sz (r ++ [n]) = sz r + (wr n).length + 1 := by
  unfold sz
  rw [wrs_app, List.map_append, List.sum_append, List.length_append]
  show _ + ([(wr n).length]).sum + _ = _
  simp
  omega
theorem tot_snoc (N : List (List Nt)) (r : List Nt) : tot (N ++ [r]) = tot N + sz r := by unfold tot; rw [List.map_append, List.sum_append]; simp
theorem tup_len (r : List Nt) : (wr (.tup r)).length ≤ sz r + 2 := by
  rw [wr_tup_len]
  have := joinL_len (ls := wrs r)
  rw [wrs_len] at this
  unfold sz
  rcases this with h | ⟨_, h⟩
  · omega
  · rw [h]; simp
theorem sz_len (r : List Nt) : r.length ≤ sz r := Nat.le_add_left _ _

theorem mem_z (b : Nat) : decide (b ∈ (Str.ofString "-0").cps.toList) = decide (b = 45 ∨ b = 48) := by
  rw [show (Str.ofString "-0").cps.toList = [45, 48] from by decide +kernel]
  exact dec_congr (by simp)
theorem mem_19 (b : Nat) : decide (b ∈ (Str.ofString "123456789").cps.toList) = decide (49 ≤ b ∧ b ≤ 57) := by
  rw [show (Str.ofString "123456789").cps.toList = [49, 50, 51, 52, 53, 54, 55, 56, 57] from by decide +kernel]
  refine dec_congr ?_
  simp
  omega
theorem br_ch {b n : Nat} {z : Str} {A B : Prop} (hz : z = S [n]) (h1 : b = n → A) (h2 : b ≠ n → B) : Br (decide ((⟨#[b]⟩ : Str) = z)) A B := by
  subst hz
  have e : decide ((⟨#[b]⟩ : Str) = S [n]) = decide (b = n) := by
    rw [show (⟨#[b]⟩ : Str) = S [b] from rfl, S_eq]
    exact dec_congr (by simp)
  rw [e]
  exact br_d h1 h2
theorem br_me {b : Nat} {z : Str} {A B p : Prop} [Decidable p] (hz : decide (b ∈ z.cps.toList) = decide p) (h1 : p → A) (h2 : ¬ p → B) : Br (decide (b ∈ z.cps.toList)) A B := by
  rw [hz]
  exact br_d h1 h2
theorem v_inB {K : PySem.W.Frag} {b : Nat} {z : Str} {x : Bool} {H : Hp} {Q : VK} (hz : decide (b ∈ z.cps.toList) = x) (q : Q (.bl x) H) : uInX K (.str ⟨#[b]⟩) (.str z) H Q := v_inS (by rw [hz]; exact q)
theorem br_bl {x : Bool} {A B : Prop} (h1 : x = true → A) (h2 : ¬ x = true → B) : Br x A B := by cases x; exact br_f (h2 (by decide)); exact br_t (h1 rfl)
instance j_int2B {x : Bool} {H : Hp} {Q : VK} : St1 (cInt2 [.bl x] H Q) (Q (.int (if x then 1 else 0)) H) := ⟨fun q => .inl (v_intB q)⟩
theorem nx_low {m n d b : Nat} (h : m < 2) : nxt m n d b = if b = 40 ∧ d < 100 then 1 else if b = 41 ∧ m = 1 then 6 else if b = 45 then 2 else if b = 48 then 3 else if 49 ≤ b ∧ b ≤ 57 then 4 else if letter b = true then 5 else -1 := if_pos h
theorem nx_a {m n d : Nat} (h : m < 2) (h1 : d < 100) : nxt m n d 40 = 1 := by rw [nx_low h, if_pos ⟨rfl, h1⟩]
theorem nx_b {m n d : Nat} (h : m < 2) (h1 : ¬ d < 100) : nxt m n d 40 = -1 := by
  rw [nx_low h, if_neg (fun z => h1 z.2)]
  rfl
theorem nx_c {m n d : Nat} (h : m < 2) (h1 : m = 1) : nxt m n d 41 = 6 := by rw [nx_low h, if_neg (by omega), if_pos ⟨rfl, h1⟩]
theorem nx_d {m n d : Nat} (h : m < 2) (h1 : ¬ m = 1) : nxt m n d 41 = -1 := by
  rw [nx_low h, if_neg (by omega), if_neg (fun z => h1 z.2)]
  rfl
theorem nx_e {m n d : Nat} (h : m < 2) : nxt m n d 45 = 2 := by rw [nx_low h, if_neg (by omega), if_neg (by omega)]; rfl
theorem nx_f {m n d : Nat} (h : m < 2) : nxt m n d 48 = 3 := by rw [nx_low h, if_neg (by omega), if_neg (by omega)]; rfl
theorem nx_g {m n d b : Nat} (h : m < 2) (h1 : 49 ≤ b ∧ b ≤ 57) : nxt m n d b = 4 := by rw [nx_low h, if_neg (by omega), if_neg (by omega), if_neg (by omega), if_neg (by omega), if_pos h1]
theorem nx_h {m n d b : Nat} (h : m < 2) (h1 : b ≠ 40) (h2 : b ≠ 41) (h3 : ¬ (b = 45 ∨ b = 48)) (h4 : ¬ (49 ≤ b ∧ b ≤ 57)) : nxt m n d b = (6 * if letter b = true then 1 else 0) - 1 := by
  rw [nx_low h, if_neg (by omega), if_neg (by omega), if_neg (by omega), if_neg (by omega), if_neg h4]
  split <;> rfl
theorem nx_i {m n d : Nat} (h : 2 ≤ m) (h1 : 0 < d) : nxt m n d 32 = 0 := by rw [nxt_hi h, if_pos ⟨h1, .inl rfl⟩]; rfl
theorem nx_j {m n d : Nat} (h : 2 ≤ m) (h1 : 0 < d) : nxt m n d 41 = 6 := by rw [nxt_hi h, if_pos ⟨h1, .inr rfl⟩]; rfl
theorem nx_k {m n d b : Nat} (h : 2 ≤ m) (h1 : ¬ (0 < d ∧ (b = 32 ∨ b = 41))) (h2 : (m = 2 ∧ 49 ≤ b ∧ b ≤ 57) ∨ (m = 4 ∧ n < 200 ∧ digit b = true)) : nxt m n d b = 4 := by rw [nxt_hi h, if_neg h1, if_pos h2]
theorem nx_l {m n d b : Nat} (h : 2 ≤ m) (h1 : ¬ (0 < d ∧ (b = 32 ∨ b = 41))) (h2 : m = 5 ∧ n < 24 ∧ wordc b = true) : nxt m n d b = 5 := by rw [nxt_hi h, if_neg h1, if_neg (by omega), if_pos h2]
theorem nx_m {m n d b : Nat} (h : 2 ≤ m) (h1 : ¬ (0 < d ∧ (b = 32 ∨ b = 41))) (h2 : ¬ ((m = 2 ∧ 49 ≤ b ∧ b ≤ 57) ∨ (m = 4 ∧ n < 200 ∧ digit b = true))) (h3 : ¬ (m = 5 ∧ n < 24 ∧ wordc b = true)) : nxt m n d b = -1 := by rw [nxt_hi h, if_neg h1, if_neg h2, if_neg h3]
theorem bad_take {l : List Nat} {i j b : Nat} {s : Rd} (h : GN.run GN.start (l.take i) = some s) (hb : l[i]? = some b) (hs : GN.step s b = none) (hj : i < j) : GN.run GN.start (l.take j) = none := by
  have e1 : GN.run GN.start (l.take (i + 1)) = none := by
    rw [List.take_add_one, hb, GN.run_append, h]
    show (GN.step s b).bind _ = _
    rw [hs]
    rfl
  have e2 : l.take j = l.take (i + 1) ++ (l.take j).drop (i + 1) := by
    have := (List.take_append_drop (i + 1) (l.take j)).symm
    rwa [List.take_take, Nat.min_eq_left (by omega)] at this
  rw [e2, GN.run_append, e1]
  rfl
theorem bit_if (p : Prop) [Decidable p] : (if (decide p) = true then (1 : Int) else 0) = bit p := by
  unfold bit
  by_cases h : p
  · rw [if_pos (decide_eq_true h), if_pos h]
  · rw [if_neg (by simp [h]), if_neg h]
theorem chr_if (b k : Nat) : (if (decide ((⟨#[b]⟩ : Str) = S [k])) = true then (1 : Int) else 0) = bit (b = k) := by
  have e : decide ((⟨#[b]⟩ : Str) = S [k]) = decide (b = k) := by
    rw [show (⟨#[b]⟩ : Str) = S [b] from rfl, S_eq]
    exact dec_congr (by simp)
  rw [e, bit_if]
theorem v_ixZ {K : PySem.W.Frag} {z : Str} {j : Nat} {H : Hp} {Q : VK} (hz : z.length ≤ 1000) (hj : j < z.cps.toList.length) (q : ∀ b, Q (.str ⟨#[b]⟩) H) : uIx K (.str z) (.int (j : Int)) H Q := by
  rw [S_of z]
  exact v_ixS (by rw [← S_of z, sizeLine_eq]; omega) (List.getElem?_eq_getElem hj) (q _)
def isOdd : V → Bool
  | .str z => decide (z.cps.toList.length ≤ 100)
  | _ => false
theorem v_ixOdd {K : PySem.W.Frag} {a : Addr} {xs : List V} {n : Nat} {H : Hp} {Q : VK} (ha : H a = some (.lst xs)) (hl : n < xs.length) (hall : xs.all isOdd = true) (q : ∀ l : List Nat, l.length ≤ 100 → Q (.str (S l)) H) : uIx K (.ref a) (.int (n : Int)) H Q := by
  have h1 := List.all_eq_true.mp hall xs[n] (List.getElem_mem hl)
  have h2 := List.getElem?_eq_getElem hl
  generalize xs[n] = v at h1 h2
  refine v_ixLn ha h2 ?_
  cases v with
  | str z =>
    rw [S_of z]
    exact q _ (of_decide_eq_true h1)
  | _ => cases h1
theorem v_slTo {K : PySem.W.Frag} {l : List Nat} {n : Nat} {H : Hp} {Q : VK} (hz : l.length ≤ 1000000) (q : ∀ l' : List Nat, l'.length ≤ n → Q (.str (S l')) H) : uSl K (.str (S l)) none (some (n : Int)) H Q := by
  refine .inr (.inr ⟨S l, rfl, by rw [S_len, sizeLine_eq]; omega, ?_⟩)
  rw [S_of (cutS (S l) none (some (n : Int)))]
  refine q _ ?_
  unfold cutS
  rw [HT.sIx_nat]
  simp
  omega
theorem v_slFrom {K : PySem.W.Frag} {l : List Nat} {n : Nat} {H : Hp} {Q : VK} (hz : l.length ≤ 1000000) (q : ∀ l' : List Nat, l'.length ≤ l.length - n → Q (.str (S l')) H) : uSl K (.str (S l)) (some (n : Int)) none H Q := by
  refine .inr (.inr ⟨S l, rfl, by rw [S_len, sizeLine_eq]; omega, ?_⟩)
  rw [S_of (cutS (S l) (some (n : Int)) none)]
  refine q _ ?_
  unfold cutS
  rw [HT.sIx_nat, S_len]
  simp [S_cps]
  omega
theorem S_chr (b : Nat) : (⟨#[b]⟩ : Str) = S [b] := rfl
theorem v_repC {b : Nat} {n : Int} {H : Hp} {Q : VK} (h1 : 1 ≤ n) (h2 : n ≤ 1000) (q : ∀ l' : List Nat, l'.length ≤ n.toNat → Q (.str (S l')) H) : uMulX (.str ⟨#[b]⟩) (.int n) H Q := by
  obtain ⟨m, rfl⟩ : ∃ m : Nat, n = (m : Int) := ⟨n.toNat, by omega⟩
  refine .inr ⟨[b], m, rfl, rfl, by omega, by omega, by simp, by simp, q _ ?_⟩
  rw [List.length_flatten, List.map_replicate, List.sum_replicate_nat]
  simp
theorem v_addSS {K : PySem.W.Frag} {a b : List Nat} {H : Hp} {Q : VK} (h : a.length + b.length ≤ 1000000) (q : Q (.str (S (a ++ b))) H) : uAdd K (.str (S a)) (.str (S b)) H Q := by
  refine v_addS (by rw [S_len, S_len]; exact h) ?_
  rw [S_app]
  exact q
theorem dec_bool (x : Bool) : x = decide (x = true) := by cases x <;> rfl
theorem nxt_is {Q : VK} {H : Hp} {m n d b : Nat} {X : Int} (k : Q (.int (nxt m n d b)) H) (h : nxt m n d b = X) : Q (.int X) H := h ▸ k
theorem cat_words : Str.ofString "abcdefghijklmnopqrstuvwxyz" ++ Str.ofString "0123456789-:" = Str.ofString "abcdefghijklmnopqrstuvwxyz0123456789-:" := by decide +kernel

def sp__law_draw (c : Ad) : Sp := fun vs H Q _ => vs.length = 2 ∧ ∃ (p : Addr) (m : Int), vs = [.ref p, .int m] ∧ Pool H p ∧ 0 < m ∧ m ≤ 1000000 ∧ ∀ r H', 0 ≤ r → r < m → But p H H' → Pool H' p → Q (.int r) H'
def sp__law_pool (c : Ad) : Sp := fun vs H Q _ => vs.length = 1 ∧ ∃ (a : Addr) (ns : List Int), vs = [.ref a] ∧ SqL c.K H a (ns.map V.int) ∧ ns.length ≤ 63 ∧ (∀ n ∈ ns, Builtin.Int.intBits n ≤ 1048576) ∧ ∀ p H', H p = none → Ext H H' → Pool H' p → Q (.ref p) H'
def sp_write_note (c : Ad) : Nat → Sp
  | 0 => fun _ _ _ _ => False
  | d + 1 => fun vs H Q _ => vs.length = 1 ∧ ∃ (v : V) (n : Nt), vs = [v] ∧ NtV H n v ∧ Ok n ∧ depth n ≤ d ∧ (wr n).length ≤ 500000 ∧ ∀ H', Ext H H' → Q (.str (S (wr n))) H'
def sp_goes_on (c : Ad) : Sp := fun vs H Q _ => vs.length = 2 ∧ ∃ (t : List Nat) (b : Nat), vs = [.str (S t), .str ⟨#[b]⟩] ∧ TokOk t ∧ Q (.bl (goes t b)) H
def sp_token_note (c : Ad) : Sp := fun vs H Q _ => vs.length = 1 ∧ ∃ (t : List Nat), vs = [.str (S t)] ∧ TokOk t ∧ ∀ v, NtV H (tnote t) v → Q v H
def sp_close_row (c : Ad) : Sp := fun vs H Q _ => vs.length = 1 ∧ ∃ (q : Addr) (H0 : Hp) (cur r : List Nt) (out : List (List Nt)), vs = [.ref q] ∧ RowsAt H0 H q cur (r :: out) ∧ r.length ≤ 200000 ∧ ∀ H', RowsAt H0 H' q (r ++ [.tup cur]) out → Q .non H'
def sp_read_note (c : Ad) : Sp := fun vs H Q E => vs.length = 1 ∧ ∃ (l : List Nat), vs = [.str (S l)] ∧ l.length ≤ 100000 ∧ (∀ i s b, GN.run GN.start (l.take i) = some s → l[i]? = some b → GN.step s b = none → ∀ d H', Ext H H' → H' d = some (.xd (subj (.int (i : Nat)))) → E (.ref c.BadNote) (some d) H') ∧ (∀ s, GN.run GN.start l = some s → (s.out ≠ [] ∨ (flush s).cur = []) → ∀ d H', Ext H H' → H' d = some (.xd (subj (.int (l.length : Nat)))) → E (.ref c.BadNote) (some d) H') ∧ (∀ s n r, GN.run GN.start l = some s → s.out = [] → (flush s).cur = n :: r → ∀ v H', Ext H H' → NtV H' n v → Q v H')
def sp__law_word (c : Ad) : Sp := fun vs H Q _ => vs.length = 1 ∧ ∃ (p : Addr), vs = [.ref p] ∧ Pool H p ∧ ∀ l H', Word l → But p H H' → Pool H' p → Q (.str (S l)) H'
def sp__law_integer (c : Ad) : Sp := fun vs H Q _ => vs.length = 1 ∧ ∃ (p : Addr), vs = [.ref p] ∧ Pool H p ∧ ∀ (i : Int) H', i.natAbs < 10 ^ 200 → But p H H' → Pool H' p → Q (.int i) H'
def sp__law_leaf (c : Ad) : Sp := fun vs H Q _ => vs.length = 1 ∧ ∃ (p : Addr), vs = [.ref p] ∧ Pool H p ∧ ∀ n v H', NtV H' n v → Ok n → depth n = 0 → (wr n).length ≤ 201 → (v = .non ∧ n = .non ∨ (∃ l, v = .str (S l) ∧ n = .wd l) ∨ ∃ i, v = .int i ∧ n = .int i) → But p H H' → Pool H' p → Q v H'
def sp__law_whole (c : Ad) : Sp := fun vs H Q _ => vs.length = 1 ∧ ∃ (i : Int), vs = [.int i] ∧ Q (.bl true) H
def sp__law_same (c : Ad) : Sp := fun vs H Q _ => vs.length = 3 ∧ ∃ (v u : V) (n : Nt) (m : Nat), vs = [v, u, .int (m : Int)] ∧ NtV H n v ∧ NtV H n u ∧ nodes n < m ∧ m ≤ 100001 ∧ ∀ H', Ext H H' → Q (.bl true) H'
def sp__law_close (c : Ad) : Sp := fun vs H Q _ => vs.length = 2 ∧ ∃ (q p pl : Addr) (H0 : Hp) (N : List (List Nt)) (r cur : List Nt), vs = [.ref q, .ref p] ∧ Two H0 H pl q p (N ++ [r] ++ [cur]) ∧ r.length ≤ 50000 ∧ sz cur ≤ 50000 ∧ ∀ H', Two H0 H' pl q p (N ++ [r ++ [.tup cur]]) → Q .non H'
def sp__law_note (c : Ad) : Sp := fun vs H Q _ => vs.length = 1 ∧ ∃ (pl : Addr), vs = [.ref pl] ∧ Pool H pl ∧ ∀ u v n H', But pl H H' → Pool H' pl → H' u = some (.tup [v, .str (S (wr n))]) → NtV H' n v → Ok n → depth n ≤ 100 → (wr n).length ≤ 50002 → Q (.ref u) H'
def sp__law_next (c : Ad) : Sp := fun vs H Q _ => vs.length = 4 ∧ ∃ (m n d b : Nat), vs = [.int (m : Int), .int (n : Int), .int (d : Int), .str ⟨#[b]⟩] ∧ Q (.int (nxt m n d b)) H
def sp__law_wrong (c : Ad) : Sp := fun vs H Q _ => vs.length = 1 ∧ ∃ (l : List Nat), vs = [.str (S l)] ∧ l.length ≤ 100000 ∧ (∀ i s b, GN.run GN.start (l.take i) = some s → l[i]? = some b → GN.step s b = none → Q (.int (i : Nat)) H) ∧ (∀ s, GN.run GN.start l = some s → (s.out ≠ [] ∨ (flush s).cur = []) → Q (.int (l.length : Nat)) H) ∧ (∀ s, GN.run GN.start l = some s → ¬ (s.out ≠ [] ∨ (flush s).cur = []) → Q (.int (-1)) H)
def sp__law_char (c : Ad) : Sp := fun vs H Q _ => vs.length = 1 ∧ ∃ (p : Addr), vs = [.ref p] ∧ Pool H p ∧ ∀ b H', But p H H' → Pool H' p → Q (.str ⟨#[b]⟩) H'
def sp__law_odd (c : Ad) : Sp := fun vs H Q _ => vs.length = 1 ∧ ∃ (n : Nat), vs = [.int (n : Int)] ∧ n < 30 ∧ ∀ l H', Ext H H' → l.length ≤ 100 → Q (.str (S l)) H'
def sp__law_changed (c : Ad) : Sp := fun vs H Q _ => vs.length = 2 ∧ ∃ (p : Addr) (l : List Nat), vs = [.ref p, .str (S l)] ∧ Pool H p ∧ l.length ≤ 90000 ∧ ∀ l' H', l'.length ≤ l.length + 300 → But p H H' → Pool H' p → Q (.str (S l')) H'
def sp__law_parsed (c : Ad) : Sp := fun vs H Q _ => vs.length = 1 ∧ ∃ (n : Nt), vs = [.str (S (wr n))] ∧ Ok n ∧ (wr n).length ≤ 60000 ∧ ∀ u H', Ext H H' → NtV H' n u → Q u H'
def sp__law_asked (c : Ad) : Sp := fun vs H Q _ => vs.length = 1 ∧ ∃ (l : List Nat), vs = [.str (S l)] ∧ l.length ≤ 60000 ∧ ∀ H', Ext H H' → Q (.bl true) H'
def sp_law (c : Ad) : Sp := spLaw c.K
theorem call_draw {c : Ad} {H : Hp} {Q : VK} {E : XK} {p : Addr} {m : Int} (hp : Pool H p) (h0 : 0 < m) (h1 : m ≤ 1000000) (k : ∀ r H', 0 ≤ r → r < m → But p H H' → Pool H' p → Q (.int r) H') : sp__law_draw c [.ref p, .int m] H Q E := ⟨rfl, p, m, rfl, hp, h0, h1, k⟩
theorem call_pool {c : Ad} {H : Hp} {Q : VK} {E : XK} {a : Addr} {ns : List Int} (hS : SqL c.K H a (ns.map V.int)) (hn : ns.length ≤ 63) (hb : ∀ n ∈ ns, Builtin.Int.intBits n ≤ 1048576) (k : ∀ p H', H p = none → Ext H H' → Pool H' p → Q (.ref p) H') : sp__law_pool c [.ref a] H Q E := ⟨rfl, a, ns, rfl, hS, hn, hb, k⟩

theorem lcPool {J : It} {n : Nat} {G : Hp → Prop} {Y : Nat → Hp → V → Hp → Prop} {σ σw : L2.St} {H : Hp} {g : TG} {te : TE} {vs : List Nat} {Q : VK} (w : Walk J n G Y) [a : WipeS σ vs σw] (hn : n ≤ 1000000) {p : Addr} (hp : Pool H p) (R : Nat → V → Prop) (hG : ∀ H1, But p H H1 → G H1) (hY : ∀ i H1 x H1', Y i H1 x H1' → H1' = H1)
    (hs : ∀ i x H1 (k : VK), i < n → But p H H1 → Pool H1 p → Y i H1 x H1 → (∀ y H2, But p H1 H2 → Pool H2 p → R i y → k y H2) → g x σw H1 fun σ2 H2 => LcK vs σw te k σ2 H2)
    (hd : ∀ D ys H1, H D = none → But p H H1 → Pool H1 p → H1 D = some (.lst ys) → ys.length = n → (∀ i y, ys[i]? = some y → R i y) → Q (.ref D) H1) : rLc J g tYes te vs σ H Q := by
  obtain ⟨ps, hl⟩ := hp.lst
  exact lcB w hn hl (fun H1 => Pool H1 p) R hp (fun H1 H2 D b hS hD nD bD => hS.but bD nD) (fun H1 b _ => hG H1 b) (fun i H1 x H1' hy => by rw [hY i H1 x H1' hy]; exact Ext.rfl)
    (fun i x H1 H1' k hi b hS hy hk => by have e := hY i H1 x H1' hy; subst e; exact hs i x _ k hi b hS hy hk) hd
theorem ints_of {P : Int → Prop} : ∀ {ys : List V}, (∀ (i : Nat) (y : V), ys[i]? = some y → ∃ z, y = .int z ∧ P z) → ∃ ns : List Int, ys = ns.map V.int ∧ ∀ z ∈ ns, P z
  | [], _ => ⟨[], rfl, fun z hz => nomatch hz⟩
  | y :: ys, h => by
    obtain ⟨z, rfl, hz⟩ := h 0 y rfl
    obtain ⟨ns, rfl, hns⟩ := ints_of (ys := ys) fun i y hy => h (i + 1) y hy
    exact ⟨z :: ns, rfl, fun w hw => by rcases List.mem_cons.mp hw with rfl | hw; exact hz; exact hns w hw⟩

theorem run_all {l : List Nat} {i b : Nat} {s sf : Rd} (h : GN.run GN.start (l.take i) = some s) (hb : l[i]? = some b) (hs : GN.step s b = none) (hf : GN.run GN.start l = some sf) : False := by
  have e : l = l.take (i + 1) ++ l.drop (i + 1) := (List.take_append_drop _ _).symm
  rw [e, run_append] at hf
  have h2 : GN.run GN.start (l.take (i + 1)) = none := by
    rw [List.take_add_one, hb, run_append, h]
    show (GN.step s b).bind _ = none
    rw [hs]
    rfl
  rw [h2] at hf
  cases hf

end K08
namespace K08
open PySem L2 GG PyProof.Rows
open GM
open GN
open PySem.NumText
local macro_rules | `(tactic| got_up) => `(tactic| first
  | assumption
  | (refine Ext.look (by assumption) ?_; got_up)
  | (refine But.look (by assumption) (by first | assumption | (exact Ne.symm (by assumption))) ?_; got_up)
  | (refine But.lookK (by assumption) (by got_up) (by got_up) (by intro hh; cases hh)))
local macro_rules | `(tactic| mem_news) => `(tactic| first
  | ((with_reducible refine' v_ixL ?h1 ?h2 ?h3 ?_); (case h1 => with_reducible got_up); (case h2 => decide); (case h3 => with_unfolding_all rfl))
  | ((with_reducible refine' v_ixT ?h1 ?h2 ?h3 ?_); (case h1 => with_reducible got_up); (case h2 => decide); (case h3 => with_unfolding_all rfl))
  | ((with_reducible refine' r_fld ?h1 ?h2 ?h3 ?h4 ?_); (case h1 => with_reducible got_up); (case h2 => assumption); (case h3 => assumption); (case h4 => with_unfolding_all rfl))
  | ((with_reducible refine' v_mod ?h1 ?_); (case h1 => first | assumption | decide | omega))
  | ((with_reducible refine' v_mul ?h1 ?_); (case h1 => first | exact CM.left (by omega) (by omega) | exact CM.right (by omega) (by omega)))
  | ((with_reducible refine' r_tup ?h1 ?_); (case h1 => simp); intro _ _ _ _ _)
  | ((with_reducible refine' r_lst ?h1 ?_); (case h1 => simp); intro _ _ _ _ _)
  | ((with_reducible refine' v_lenL ?h1 ?_); (case h1 => with_reducible got_up))
  | ((with_reducible refine' v_lenT ?h1 ?_); (case h1 => with_reducible got_up))
  | ((with_reducible refine' g_tup ?h1 ?h2 ?_); (case h1 => with_reducible got_up); (case h2 => with_unfolding_all rfl))
  | ((with_reducible refine' r_rng1 ?h1 ?h2 ?_); (case h1 => decide); (case h2 => decide))
  | ((with_reducible refine' r_seqL ?h1 ?_); (case h1 => with_reducible got_up))
  | ((with_reducible refine' r_seqT ?h1 ?_); (case h1 => with_reducible got_up))
  | ((with_reducible refine' v_own ?h1 ?h2 ?_); (case h1 => with_reducible got_up); (case h2 => with_reducible got_up))
  | ((with_reducible refine' v_ownI ?h1 ?_); (case h1 => with_reducible got_up))
  | ((with_reducible refine' v_ownIn ?h1 ?_); (case h1 => with_reducible got_up))
  | ((with_reducible refine' v_own1 ?h1 ?_); (case h1 => with_reducible got_up))
  | ((with_reducible refine' v_ownC ?h1 ?_); (case h1 => with_reducible got_up))
  | ((with_reducible refine' v_ownB ?h1 ?_); (case h1 => with_reducible got_up))
  | ((with_reducible refine' v_ownLen ?h1 ?_); (case h1 => with_reducible got_up))
  | ((with_reducible refine' v_mt ?h1 ?h2 ?_); (case h1 => with_reducible got_up); (case h2 => with_unfolding_all rfl))
  | ((with_reducible refine' v_isO ?h1 ?h2 ?_); (case h1 => with_reducible got_up); (case h2 => assumption))
  | ((with_reducible refine' And.intro (ty_list ?h1) ?_); (case h1 => with_reducible got_up))
  | ((with_reducible refine' v_eqT2 ?h1 ?h2 ?_); (case h1 => with_reducible got_up); (case h2 => with_reducible got_up))
  | ((with_reducible refine' run_tryAs ?_); intro _ _)
  | ((with_reducible refine' v_isTT ?h1 ?_); (case h1 => with_reducible got_up))
  | ((with_reducible refine' v_get ?h1 ?_); (case h1 => with_reducible got_up))
  | ((with_reducible refine' v_listT ?h1 ?_); (case h1 => with_reducible got_up); intro _ _ _ _ _)
  | ((with_reducible refine' v_listL ?h1 ?_); (case h1 => with_reducible got_up); intro _ _ _ _ _)
  | ((with_reducible refine' v_tupL ?h1 ?_); (case h1 => with_reducible got_up); intro _ _ _ _ _)
  | ((with_reducible refine' run_tryOnly ?_); intro _ _))
local macro_rules | `(tactic| end_int) => do
  let r := Lean.mkIdent `rest_
  let h := Lean.mkIdent `hrest_
  `(tactic| first | (with_reducible refine StP.h ?_) | ((with_reducible refine run_seqG ?_); intro $r:ident $h:ident) | ((with_reducible refine run_rest $r ?_); subst $h:ident) | mem_news)
local macro_rules | `(tactic| reads_via) => `(tactic| repeat' end_int)
local macro_rules | `(tactic| o_reads) => do
  let r := Lean.mkIdent `rest_
  let h := Lean.mkIdent `hrest_
  `(tactic| repeat ((fail_if_success (with_reducible refine is_if ?_)); first | (with_reducible refine St1.h ?_) | ((with_reducible refine run_seqG ?_); intro $r:ident $h:ident) | ((with_reducible refine run_rest $r ?_); subst $h:ident) | mem_news))
local macro_rules | `(tactic| end_str) => `(tactic| repeat' (first | end_int | (with_reducible refine br_yes (by first | assumption | decide | omega | (simp; done) | fail) ?_) | (with_reducible refine br_no (by first | assumption | decide | omega | (simp; done) | fail) ?_) | fail))

set_option maxHeartbeats 1000000 in
theorem ok__law_draw {P : Program} {w : World} {K : PySem.W.Frag} {mg : Str → Option Value} {base : Heap} {c : Ad} {f : Addr} {fd : FuncData} (F : Fun K "_law_draw" "_law_draw" s__law_draw f fd) (T : Txt K mg c)  :
    FnOk P w K mg base (L2N.CX P w) 1 f fd ["_law_pool_here", "_law_many"] (sp__law_draw c) := by
  refine GG.Fun.okN F sc__law_draw (fun vs H Q E h => h.1) (fun cdv ar ou sh H vs Q E hr h => ?_)
  obtain ⟨_, p, m, rfl, ⟨a, b, c, n, hs, hp, ha, hb, hc, hl⟩, hm0, hm1, k⟩ := h
  have tk := L2N.takes_of (X := cxOf (L2N.CX P w) P w K mg base ["_law_pool_here", "_law_many", "_law_first", "_law_second", "_law_found"] "_law_draw" (defScope s__law_draw) f cdv ar ou sh H E) rfl rfl rfl rfl
  refine ⟨_, (pss_cons (ps_asg (pe_op (u_add K) (pe_ix (u_ix K) (pv 0) pe_int (fun _ _ => rfl)) pe_int) (pg_sub (pv 0) pe_int u_set))
      (pss_cons (ps_if (pt_cmpR u_gt (pe_callB (c_len K) (by rfl) T.b_len (by decide +kernel) (pa_cons (pv 0) pa_nil)) pe_int (nomark _))
      (pss_cons (ps_asg (pe_op u_mod (pe_callTy c_int2 (by rfl) T.b_int (by decide +kernel) (pa_cons (pe_ix (u_ix K) (pv 0) pe_int (fun _ _ => rfl)) pa_nil)) (pv 1)) (pg_name (i := 4) sc__law_draw.nd rfl (Or.inl rfl)))
      (pss_cons (ps_asg (pe_op u_fdiv (pe_ix (u_ix K) (pv 0) pe_int (fun _ _ => rfl)) (pv 1)) (pg_sub (pv 0) pe_int u_set))
      (pss_cons (ps_if (pt_cmpR (u_eq K hr.units) (pe_ix (u_ix K) (pv 0) pe_int (fun _ _ => rfl)) pe_int (nomark _))
      (pss_one (ps_expr (pe_bmK K (pe_bm PySem.F.plainAttrs_list PySem.F.slot_list_pop PySem.F.type_list_pop m_popAt (pv 0) (pa_cons pe_int pa_nil)))))
      pss_nil)
      (pss_one (ps_ret (pv 4))))))
      pss_nil)
      (pss_cons (ps_asg (pe_op u_mod (pe_callTy c_int2 (by rfl) T.b_int (by decide +kernel) (pa_cons (pe_op (u_add K) (pe_ix (u_ix K) (pv 0) pe_int (fun _ _ => rfl)) (pe_op u_mul pe_int (pe_ix (u_ix K) (pv 0) pe_int (fun _ _ => rfl)))) pa_nil)) pe_int) (pg_name (i := 2) sc__law_draw.nd rfl (Or.inl rfl)))
      (pss_cons (ps_asg (pe_op u_mod (pe_callTy c_int2 (by rfl) T.b_int (by decide +kernel) (pa_cons (pe_op (u_add K) (pe_ix (u_ix K) (pv 0) pe_int (fun _ _ => rfl)) (pe_op u_mul (pv 2) (pv 2))) pa_nil)) pe_int) (pg_name (i := 3) sc__law_draw.nd rfl (Or.inl rfl)))
      (pss_one (ps_ret (pe_op u_mod (pe_op u_mod (pe_callTy c_int2 (by rfl) T.b_int (by decide +kernel) (pa_cons (pe_op (u_add K) (pe_op (u_add K) (pe_ix (u_ix K) (pv 0) pe_int (fun _ _ => rfl)) (pe_op u_mul pe_int (pe_ix (u_ix K) (pv 0) pe_int (fun _ _ => rfl)))) (pe_op u_mul (pv 3) (pv 3))) pa_nil)) pe_int) (pv 1)))))))), ?_⟩
  try dsimp only [L2H.cxH, cxOf, Cx.suite, Cx.tr, List.map_cons, List.map_nil]
  refine run_start (σ := [some (.ref p), some (.int m), none, none, none]) rfl ?_
  clear tk
  reads_via
  refine v_set (by got_up) (by decide) (by simp) fun H1 e1 h1 => ?_
  simp only [Int.reduceToNat, List.set_cons_succ, List.set_cons_zero] at h1
  reads_via
  refine br_d (fun c1 => ?_) (fun c1 => ?_)
  · obtain ⟨h0, hs, rfl⟩ : ∃ h0 t, hs = h0 :: t := by
      cases hs with
      | nil => simp at c1
      | cons x t => exact ⟨x, t, rfl⟩
    simp only [List.map_cons] at h1
    simp only [List.length_cons] at hl
    reads_via
    refine v_fdiv (cd_small hm0 (by omega)) ?_
    reads_via
    refine v_set (by got_up) (by decide) (by simp) fun H2 e2 h2 => ?_
    simp only [Int.reduceToNat, List.set_cons_succ, List.set_cons_zero] at h2
    reads_via
    refine br_d (fun c2 => ?_) (fun c2 => ?_)
    · reads_via
      refine v_popAt (by got_up) (by decide) (by decide) (by with_unfolding_all rfl) fun H3 e3 h3 => ?_
      simp only [Int.reduceToNat, List.eraseIdx_cons_succ, List.eraseIdx_cons_zero] at h3
      reads_via
      exact k _ _ (Int.emod_nonneg _ (by omega)) (Int.emod_lt_of_pos _ hm0) ((e1.trans e2).trans e3) ⟨a, b, c, n + 1, hs, h3, ha, hb, hc, by omega⟩
    · reads_via
      exact k _ _ (Int.emod_nonneg _ (by omega)) (Int.emod_lt_of_pos _ hm0) (e1.trans e2) ⟨a, b, c, n + 1, _ :: hs, h2, ha, hb, hc, by simp; omega⟩
  · reads_via
    exact k _ _ (Int.emod_nonneg _ (by omega)) (Int.emod_lt_of_pos _ hm0) e1 ⟨a, b, c, n + 1, hs, h1, ha, hb, hc, hl⟩
set_option maxHeartbeats 1000000 in
theorem ok__law_pool {P : Program} {w : World} {K : PySem.W.Frag} {mg : Str → Option Value} {base : Heap} {c : Ad} {f : Addr} {fd : FuncData} (F : Fun K "_law_pool" "_law_pool" s__law_pool f fd) (T : Txt K mg c)  :
    FnOk P w K mg base (L2N.CX P w) 1 f fd ["_law_script"] (sp__law_pool c) := by
  refine GG.Fun.okN F sc__law_pool (fun vs H Q E h => h.1) (fun cdv ar ou sh H vs Q E hr h => ?_)
  obtain ⟨_, a, ns, rfl, hS, hn, hb, k⟩ := h
  rw [T.kk] at hS
  have tk := L2N.takes_of (X := cxOf (L2N.CX P w) P w K mg base ["_law_script", "_law_pool_here", "_law_cell"] "_law_pool" (defScope s__law_pool) f cdv ar ou sh H E) rfl rfl rfl rfl
  refine ⟨_, (pss_cons (ps_asg (pe_lst (pa_cons pe_int (pa_cons pe_int (pa_cons pe_int (pa_cons pe_int pa_nil))))) (pg_name (i := 1) sc__law_pool.nd rfl (Or.inl rfl)))
      (pss_cons (ps_for (passes_of rfl) rfl (pi_listK K (pi_list (pv 0))) (pg_name (i := 2) sc__law_pool.nd rfl (Or.inl rfl))
      (pss_one (ps_if (pt_cmpR u_ge (pv 2) (pe_op u_pow pe_int pe_int) (nomark _))
      (pss_one (ps_expr (pe_bmK K (pe_bm PySem.F.plainAttrs_list PySem.F.slot_list_append PySem.F.type_list_append m_append (pv 1) (pa_cons (pv 2) pa_nil)))))
      (pss_cons (ps_asg (pe_op u_mod (pe_callTy c_int2 (by rfl) T.b_int (by decide +kernel) (pa_cons (pe_op (u_add K) (pe_op u_mul (pe_ix (u_ix K) (pv 1) pe_int (fun _ _ => rfl)) pe_int) (pv 2)) pa_nil)) pe_int) (pg_sub (pv 1) pe_int u_set))
      (pss_cons (ps_asg (pe_op u_mod (pe_callTy c_int2 (by rfl) T.b_int (by decide +kernel) (pa_cons (pe_op (u_add K) (pe_op u_mul (pe_ix (u_ix K) (pv 1) pe_int (fun _ _ => rfl)) pe_int) (pe_op u_mul (pv 2) (pv 2))) pa_nil)) pe_int) (pg_sub (pv 1) pe_int u_set))
      (pss_one (ps_asg (pe_op u_mod (pe_callTy c_int2 (by rfl) T.b_int (by decide +kernel) (pa_cons (pe_op (u_add K) (pe_op u_mul (pe_ix (u_ix K) (pv 1) pe_int (fun _ _ => rfl)) pe_int) (pe_op u_mul (pv 2) pe_int)) pa_nil)) pe_int) (pg_sub (pv 1) pe_int u_set))))))))
      (pss_one (ps_ret (pv 1))))), ?_⟩
  try dsimp only [L2H.cxH, cxOf, Cx.suite, Cx.tr, List.map_cons, List.map_nil]
  refine run_start (σ := [some (.ref a), none, none]) rfl ?_
  clear tk
  reads_via
  rename_i p H0 np e0 h0
  refine r_seqLK (e0.sq hS) ?_
  refine f_list (xs := ns.map V.int) (fun i σ H' => ∃ v, σ = [some (.ref a), some (.ref p), v] ∧ Ext H H' ∧ i ≤ ns.length ∧ ∃ a b c n : Int, ∃ hs : List Int, H' p = some (.lst (.int a :: .int b :: .int c :: .int n :: hs.map V.int)) ∧ (0 ≤ a ∧ a < 101) ∧ (0 ≤ b ∧ b < 103) ∧ (0 ≤ c ∧ c < 1009) ∧ hs.length ≤ i) ?_ ?_ ?_ ?_
  · exact ⟨none, rfl, e0, Nat.zero_le _, 1, 2, 3, 0, [], h0, by decide, by decide, by decide, Nat.le_refl _⟩
  · rintro i σ H' hi ⟨v, rfl, e, _⟩
    exact e.sq hS
  · rintro i x σ H' hx ⟨v, rfl, e, hi, a1, b1, c1, n1, hs, h1, ha, hb1, hc, hl⟩
    obtain ⟨z, hz, rfl⟩ : ∃ z, ns[i]? = some z ∧ x = V.int z := by
      rw [List.getElem?_map] at hx
      cases q : ns[i]? with
      | none => rw [q] at hx; cases hx
      | some z => rw [q] at hx; exact ⟨z, rfl, (Option.some.inj hx).symm⟩
    have hi' : i < ns.length := (List.getElem?_eq_some_iff.mp hz).1
    have hbz := hb z (List.mem_of_getElem? hz)
    reads_via
    refine v_pow ⟨by decide, by decide, by decide⟩ ?_
    reads_via
    refine br_d (fun c2 => ?_) (fun c2 => ?_)
    · reads_via
      refine v_append (by got_up) (by simp; omega) fun H2 e2 h2 => ?_
      reads_via
      refine ⟨_, rfl, e2.ext e np, hi', a1, b1, c1, n1, hs ++ [z], ?_, ha, hb1, hc, by simp; omega⟩
      rw [h2]
      simp
    · reads_via
      refine v_set (by got_up) (by decide) (by simp) fun H2 e2 h2 => ?_
      simp only [Int.reduceToNat, List.set_cons_succ, List.set_cons_zero] at h2
      reads_via
      refine v_mul (IntMulOk.of_bits hbz hbz) ?_
      reads_via
      refine v_set (by got_up) (by decide) (by simp) fun H3 e3 h3 => ?_
      simp only [Int.reduceToNat, List.set_cons_succ, List.set_cons_zero] at h3
      reads_via
      refine v_set (by got_up) (by decide) (by simp) fun H4 e4 h4 => ?_
      simp only [Int.reduceToNat, List.set_cons_succ, List.set_cons_zero] at h4
      reads_via
      exact ⟨_, rfl, ((e2.trans e3).trans e4).ext e np, hi', _, _, _, _, hs, h4, ⟨Int.emod_nonneg _ (by decide), Int.emod_lt_of_pos _ (by decide)⟩, ⟨Int.emod_nonneg _ (by decide), Int.emod_lt_of_pos _ (by decide)⟩, ⟨Int.emod_nonneg _ (by decide), Int.emod_lt_of_pos _ (by decide)⟩, by omega⟩
  · rintro σ H' ⟨v, rfl, e, hi, a1, b1, c1, n1, hs, h1, ha, hb1, hc, hl⟩
    reads_via
    exact k p H' np e ⟨a1, b1, c1, n1, hs, h1, ha, hb1, hc, by simp at hl; omega⟩
set_option maxHeartbeats 1000000 in
theorem ok_goes_on {P : Program} {w : World} {K : PySem.W.Frag} {mg : Str → Option Value} {base : Heap} {c : Ad} {f : Addr} {fd : FuncData} (F : Fun K "goes_on" "goes_on" s_goes_on f fd) (T : Txt K mg c)  :
    FnOk P w K mg base (L2N.CX P w) 1 f fd ["token", "char"] (sp_goes_on c) := by
  refine GG.Fun.okN F sc_goes_on (fun vs H Q E h => h.1) (fun cdv ar ou sh H vs Q E hr h => ?_)
  obtain ⟨_, t, b, rfl, hok, k⟩ := h
  have htl := hok.len
  have hz : (S t).length ≤ sizeLine := by rw [S_len, sizeLine_eq]; omega
  have tk := L2N.takes_of (X := cxOf (L2N.CX P w) P w K mg base ["token", "char"] "goes_on" (defScope s_goes_on) f cdv ar ou sh H E) rfl rfl rfl rfl
  refine ⟨_, (pss_cons (ps_if (pt_cmpR (u_inX K) (pe_ix (u_ix K) (pv 0) pe_int (fun _ _ => rfl)) (pe_const T.k_LETTERS) rfl)
      (pss_one (ps_ret (pe_and (pe_cmpR (u_inX K) (pv 1) (pe_const T.k_WORD_CHARS) rfl) (pe_one (pe_cmpR u_lt (pe_callB (c_len K) (by rfl) T.b_len (by decide +kernel) (pa_cons (pv 0) pa_nil)) (pe_const T.k_LONGEST_WORD) (nomark _))))))
      pss_nil)
      (pss_cons (ps_if (pt_cmpR (u_eq K hr.units) (pv 0) pe_str (nomark _))
      (pss_one (ps_ret (pe_and (pe_cmpR (u_inX K) (pv 1) (pe_const T.k_DIGITS) rfl) (pe_one (pe_cmpR (u_ne K hr.units) (pv 1) pe_str (nomark _))))))
      pss_nil)
      (pss_cons (ps_if (pt_cmpR (u_eq K hr.units) (pv 0) pe_str (nomark _))
      (pss_one (ps_ret pe_bl))
      pss_nil)
      (pss_one (ps_ret (pe_and (pe_cmpR (u_inX K) (pv 1) (pe_const T.k_DIGITS) rfl) (pe_one (pe_cmpR u_lt (pe_callB (c_len K) (by rfl) T.b_len (by decide +kernel) (pa_cons (pe_bmK K (pe_bm PySem.F.plainAttrs_str PySem.F.slot_str_removeprefix PySem.F.type_str_removeprefix m_removeprefix (pv 0) (pa_cons pe_str pa_nil))) pa_nil)) (pe_const T.k_LONGEST_NUMBER) (nomark _))))))))), ?_⟩
  try dsimp only [L2H.cxH, cxOf, Cx.suite, Cx.tr, List.map_cons, List.map_nil]
  refine run_start (σ := [some (.str (S t)), some (.str ⟨#[b]⟩)]) rfl ?_
  clear tk
  obtain ⟨d, ds, hd, hcs⟩ := id hok
  have hh : t.headD 0 = d := by rw [hd]; rfl
  unfold goes at k
  rw [hh] at k
  reads_via
  refine v_ixS (j := 0) hz (c := d) (by rw [hd]; rfl) ?_
  reads_via
  refine v_inS ?_
  rw [mem_letters]
  reads_via
  refine br_b (fun c1 => ?_) (fun c1 => ?_)
  · rw [if_pos c1] at k
    reads_via
    refine v_inS ?_
    rw [mem_words]
    reads_via
    refine br_b (fun c2 => ?_) (fun c2 => ?_)
    · reads_via
      refine v_lenS hz ?_
      reads_via
      rw [S_len]
      rw [c2, Bool.true_and] at k
      rw [dec_congr (q := t.length < 24) (by omega)]
      exact k
    · rw [c2, Bool.false_and] at k
      reads_via
      exact k
  · rw [if_neg (by rw [c1]; exact Bool.false_ne_true)] at k
    reads_via
    rw [show Str.ofString "-" = S [45] from rfl, S_eq]
    refine br_d (fun c2 => ?_) (fun c2 => ?_)
    · rw [if_pos c2] at k
      reads_via
      refine v_inS ?_
      rw [mem_digits]
      reads_via
      refine br_b (fun c3 => ?_) (fun c3 => ?_)
      · rw [c3, Bool.true_and] at k
        reads_via
        rw [show Str.ofString "0" = S [48] from rfl, show (⟨#[b]⟩ : Str) = S [b] from rfl, S_eq, dec_congr (q := b = 48) (by simp)]
        exact k
      · rw [c3, Bool.false_and] at k
        reads_via
        exact k
    · rw [if_neg c2] at k
      reads_via
      rw [show Str.ofString "0" = S [48] from rfl, S_eq]
      refine br_d (fun c3 => ?_) (fun c3 => ?_)
      · rw [if_pos c3] at k
        reads_via
        exact k
      · rw [if_neg c3] at k
        reads_via
        refine v_inS ?_
        rw [mem_digits]
        reads_via
        refine br_b (fun c4 => ?_) (fun c4 => ?_)
        · rw [c4, Bool.true_and] at k
          reads_via
          refine v_remP hz ?_
          rw [show Str.ofString "-" = S [45] from rfl] at *
          rw [show S [45] = Str.ofString "-" from rfl, remP]
          have hbl : (bare t).length ≤ t.length := by
            unfold bare
            split
            · simp
            · exact Nat.le_refl _
          reads_via
          refine v_lenS (by rw [S_len, sizeLine_eq]; omega) ?_
          reads_via
          rw [S_len, dec_congr (q := (bare t).length < 200) (by omega)]
          exact k
        · rw [c4, Bool.false_and] at k
          reads_via
          exact k
set_option maxHeartbeats 1000000 in
theorem ok_token_note {P : Program} {w : World} {K : PySem.W.Frag} {mg : Str → Option Value} {base : Heap} {c : Ad} {f : Addr} {fd : FuncData} (F : Fun K "token_note" "token_note" s_token_note f fd) (T : Txt K mg c)  :
    FnOk P w K mg base (L2N.CX P w) 1 f fd ["token"] (sp_token_note c) := by
  refine GG.Fun.okN F sc_token_note (fun vs H Q E h => h.1) (fun cdv ar ou sh H vs Q E hr h => ?_)
  obtain ⟨_, t, rfl, hok, k⟩ := h
  have htl := hok.len
  have hz : (S t).length ≤ sizeLine := by rw [S_len, sizeLine_eq]; omega
  have tk := L2N.takes_of (X := cxOf (L2N.CX P w) P w K mg base ["token"] "token_note" (defScope s_token_note) f cdv ar ou sh H E) rfl rfl rfl rfl
  refine ⟨_, (pss_cons (ps_if (pt_cmpR (u_eq K hr.units) (pv 0) pe_str (nomark _))
      (pss_one (ps_ret pe_non))
      pss_nil)
      (pss_cons (ps_if (pt_cmpR (u_inX K) (pe_ix (u_ix K) (pv 0) pe_int (fun _ _ => rfl)) (pe_const T.k_LETTERS) rfl)
      (pss_one (ps_ret (pv 0)))
      pss_nil)
      (pss_one (ps_ret (pe_callTy c_int2 (by rfl) T.b_int (by decide +kernel) (pa_cons (pv 0) pa_nil)))))), ?_⟩
  try dsimp only [L2H.cxH, cxOf, Cx.suite, Cx.tr, List.map_cons, List.map_nil]
  refine run_start (σ := [some (.str (S t))]) rfl ?_
  clear tk
  obtain ⟨d, ds, hd, hcs⟩ := id hok
  have hh : t.headD 0 = d := by rw [hd]; rfl
  have hit := tok_int_text hok
  unfold tnote at k
  rw [hh] at k hit
  reads_via
  rw [show Str.ofString "-" = S [45] from rfl, S_eq]
  refine br_d (fun c2 => ?_) (fun c2 => ?_)
  · rw [if_pos c2] at k
    reads_via
    exact k _ rfl
  · rw [if_neg c2] at k
    reads_via
    refine v_ixS (j := 0) hz (c := d) (by rw [hd]; rfl) ?_
    reads_via
    refine v_inS ?_
    rw [mem_letters]
    reads_via
    refine br_b (fun c1 => ?_) (fun c1 => ?_)
    · rw [if_pos c1] at k
      reads_via
      exact k _ rfl
    · rw [if_neg (by rw [c1]; exact Bool.false_ne_true)] at k
      reads_via
      refine v_intS (hit c2 c1) (by rw [S_len]; omega) ?_
      exact k _ rfl
set_option maxHeartbeats 1000000 in
theorem ok_close_row {P : Program} {w : World} {K : PySem.W.Frag} {mg : Str → Option Value} {base : Heap} {c : Ad} {f : Addr} {fd : FuncData} (F : Fun K "close_row" "close_row" s_close_row f fd) (T : Txt K mg c)  :
    FnOk P w K mg base (L2N.CX P w) 1 f fd ["rows"] (sp_close_row c) := by
  refine GG.Fun.okN F sc_close_row (fun vs H Q E h => h.1) (fun cdv ar ou sh H vs Q E hr h => ?_)
  obtain ⟨_, q, H0, cur, r, out, rfl, hR, hl, k⟩ := h
  have tk := L2N.takes_of (X := cxOf (L2N.CX P w) P w K mg base ["rows", "items"] "close_row" (defScope s_close_row) f cdv ar ou sh H E) rfl rfl rfl rfl
  refine ⟨_, (pss_cons (ps_asg (pe_bm0K K (pe_bm0 PySem.F.plainAttrs_list PySem.F.slot_list_pop PySem.F.type_list_pop m_pop (pv 0))) (pg_name (i := 1) sc_close_row.nd rfl (Or.inl rfl)))
      (pss_one (ps_expr (pe_bmK K (pe_bm PySem.F.plainAttrs_list PySem.F.slot_list_append PySem.F.type_list_append m_append (pe_ix (u_ix K) (pv 0) (pe_un un_neg pe_int) (fun _ _ => rfl)) (pa_cons (pe_callTy (c_tuple K) (by rfl) T.b_tuple (by decide +kernel) (pa_cons (pv 1) pa_nil)) pa_nil)))))), ?_⟩
  try dsimp only [L2H.cxH, cxOf, Cx.suite, Cx.tr, List.map_cons, List.map_nil]
  refine run_start (σ := [some (.ref q), none]) rfl ?_
  clear tk
  obtain ⟨e0, nq, r0, rs, us, hq, hr0, hc, hp, hnd, hfr⟩ := hR
  obtain ⟨r1, rs', rfl, ⟨ws, hr1, hw⟩, hp'⟩ : ∃ r1 rs', rs = r1 :: rs' ∧ (∃ ws, H r1 = some (.lst ws) ∧ NtVs H r ws) ∧ Paired (fun a xs => ∃ ws, H a = some (.lst ws) ∧ NtVs H xs ws) rs' out := by
    cases hp with
    | cons h t => exact ⟨_, _, rfl, h, t⟩
  have hlen := hw.len
  simp only [List.nodup_cons, List.mem_cons, not_or] at hnd
  obtain ⟨⟨nq0, nq1, nqr⟩, ⟨n01, n0r⟩, n1r, ndr⟩ := hnd
  reads_via
  refine v_pop hq fun H1 b1 h1 => ?_
  have hr0' := b1.look (Ne.symm nq0) hr0
  have hr1' := b1.look (Ne.symm nq1) hr1
  have hc1 := NtVs.mono (b1.tups hq) cur us hc
  have hw1 := NtVs.mono (b1.tups hq) r ws hw
  rw [List.reverse_cons, List.map_append, List.map_singleton] at h1
  reads_via
  refine v_ixLast h1 ?_
  reads_via
  rename_i tp H2 ntp e2 htp
  refine v_append (by got_up) (by omega) fun H3 b3 h3 => ?_
  reads_via
  have hr1'' := e2.look hr1'
  have tp3 : H3 tp = some (.tup us) := b3.lookK hr1'' htp (by intro z; cases z)
  have t13 : ∀ a vs, H1 a = some (.tup vs) → H3 a = some (.tup vs) := fun a vs h => b3.tups hr1'' a vs (e2.tups a vs h)
  refine k H3 ⟨fun a o h => b3 a o (ne_of_none h (hfr r1 (by simp))) (e2 a o (b1 a o (ne_of_none h nq) (e0 a o h))), nq, r1, rs', ws ++ [.ref tp], ?_, h3, ?_, ?_, ?_, fun a ha => hfr a (by simp at ha ⊢; exact .inr ha)⟩
  · rw [b3 q _ nq1 (e2.look h1)]
  · exact NtVs.snoc (NtVs.mono t13 r ws hw1) ⟨tp, us, rfl, tp3, NtVs.mono t13 cur us hc1⟩
  · refine paired_mem hp' fun a xs ha h => ?_
    obtain ⟨zs, hz, hn⟩ := h
    have na1 : a ≠ r1 := fun z => n1r (z ▸ ha)
    have naq : a ≠ q := fun z => nqr (z ▸ ha)
    exact ⟨zs, b3 a _ na1 (e2.look (b1 a _ naq hz)), NtVs.mono t13 xs zs (NtVs.mono (b1.tups hq) xs zs hn)⟩
  · simp only [List.nodup_cons, List.mem_cons, not_or]
    exact ⟨⟨nq1, nqr⟩, n1r, ndr⟩
set_option maxHeartbeats 1000000 in
theorem ok__law_whole {P : Program} {w : World} {K : PySem.W.Frag} {mg : Str → Option Value} {base : Heap} {c : Ad} {f : Addr} {fd : FuncData} (F : Fun K "_law_whole" "_law_whole" s__law_whole f fd) (T : Txt K mg c)  :
    FnOk P w K mg base (L2N.CX P w) 1 f fd ["_law_value"] (sp__law_whole c) := by
  refine GG.Fun.okN F sc__law_whole (fun vs H Q E h => h.1) (fun cdv ar ou sh H vs Q E hr h => ?_)
  obtain ⟨_, i, rfl, k⟩ := h
  have tk := L2N.takes_of (X := cxOf (L2N.CX P w) P w K mg base ["_law_value"] "_law_whole" (defScope s__law_whole) f cdv ar ou sh H E) rfl rfl rfl rfl
  refine ⟨_, (pss_one (ps_ret (pe_and (pe_callB (c_isi K) (by rfl) T.b_isinstance (by decide +kernel) (pa_cons (pv 0) (pa_cons (pe_bltn (v := .ty "int") rfl T.b_int (by decide +kernel) rfl) pa_nil))) (pe_one (pe_not (pe_callB (c_isi K) (by rfl) T.b_isinstance (by decide +kernel) (pa_cons (pv 0) (pa_cons (pe_bltn (v := .ty "bool") rfl T.b_bool (by decide +kernel) rfl) pa_nil)))))))), ?_⟩
  try dsimp only [L2H.cxH, cxOf, Cx.suite, Cx.tr, List.map_cons, List.map_nil]
  refine run_start (σ := [some (.int i)]) rfl ?_
  clear tk
  reads_via
  exact k
set_option maxHeartbeats 1000000 in
theorem okH__law_whole {P : Program} {w : World} {K : PySem.W.Frag} {mg : Str → Option Value} {base : Heap} {c : Ad} {f : Addr} {fd : FuncData} (F : Fun K "_law_whole" "_law_whole" s__law_whole f fd) (T : Txt K mg c)  :
    L2H.FnH P w K mg base (L2N.CX P w) 1 f fd ["_law_value"] (sp__law_whole c) := by
  refine GG.Fun.okH F sc__law_whole (fun vs H Q E h => h.1) (fun cdv ar ou sh H vs Q E pp hot hr h => ?_)
  obtain ⟨_, i, rfl, k⟩ := h
  have tk := L2N.takes_of (X := L2H.cxH (L2N.CX P w) P w K mg base ["_law_value"] "_law_whole" (defScope s__law_whole) f cdv ar ou sh H E pp) rfl rfl rfl rfl
  have hc : L2H.HotC (L2H.cxH (L2N.CX P w) P w K mg base ["_law_value"] "_law_whole" (defScope s__law_whole) f cdv ar ou sh H E pp) := hot_def hot
  refine ⟨_, (pss_one (ps_ret (pe_and (pe_callB (c_isi K) (by rfl) T.b_isinstance (by decide +kernel) (pa_cons (pv 0) (pa_cons (pe_bltn (v := .ty "int") rfl T.b_int (by decide +kernel) rfl) pa_nil))) (pe_one (pe_not (pe_callB (c_isi K) (by rfl) T.b_isinstance (by decide +kernel) (pa_cons (pv 0) (pa_cons (pe_bltn (v := .ty "bool") rfl T.b_bool (by decide +kernel) rfl) pa_nil)))))))), ?_⟩
  try dsimp only [L2H.cxH, cxOf, Cx.suite, Cx.tr, List.map_cons, List.map_nil]
  refine run_start (σ := [some (.int i)]) rfl ?_
  clear tk
  reads_via
  exact k
set_option maxHeartbeats 1000000 in
theorem ok__law_close {P : Program} {w : World} {K : PySem.W.Frag} {mg : Str → Option Value} {base : Heap} {c : Ad} {f : Addr} {fd : FuncData} (F : Fun K "_law_close" "_law_close" s__law_close f fd) (T : Txt K mg c)  :
    FnOk P w K mg base (L2N.CX P w) 1 f fd ["_law_rows", "_law_texts"] (sp__law_close c) := by
  refine GG.Fun.okN F sc__law_close (fun vs H Q E h => h.1) (fun cdv ar ou sh H vs Q E hr h => ?_)
  obtain ⟨_, q, p, pl, H0, N, r, cur, rfl, hT, hrl, hsz, k⟩ := h
  have tk := L2N.takes_of (X := cxOf (L2N.CX P w) P w K mg base ["_law_rows", "_law_texts", "_law_row", "_law_text"] "_law_close" (defScope s__law_close) f cdv ar ou sh H E) rfl rfl rfl rfl
  refine ⟨_, (pss_cons (ps_asg (pe_callTy (c_tuple K) (by rfl) T.b_tuple (by decide +kernel) (pa_cons (pe_bm0K K (pe_bm0 PySem.F.plainAttrs_list PySem.F.slot_list_pop PySem.F.type_list_pop m_pop (pv 0))) pa_nil)) (pg_name (i := 2) sc__law_close.nd rfl (Or.inl rfl)))
      (pss_cons (ps_asg (pe_op (u_add K) (pe_op (u_add K) pe_str (pe_bmK K (pe_bm PySem.F.plainAttrs_str PySem.F.slot_str_join PySem.F.type_str_join (m_join K) pe_str (pa_cons (pe_bm0K K (pe_bm0 PySem.F.plainAttrs_list PySem.F.slot_list_pop PySem.F.type_list_pop m_pop (pv 1))) pa_nil)))) pe_str) (pg_name (i := 3) sc__law_close.nd rfl (Or.inl rfl)))
      (pss_cons (ps_expr (pe_bmK K (pe_bm PySem.F.plainAttrs_list PySem.F.slot_list_append PySem.F.type_list_append m_append (pe_ix (u_ix K) (pv 0) (pe_un un_neg pe_int) (fun _ _ => rfl)) (pa_cons (pv 2) pa_nil))))
      (pss_one (ps_expr (pe_bmK K (pe_bm PySem.F.plainAttrs_list PySem.F.slot_list_append PySem.F.type_list_append m_append (pe_ix (u_ix K) (pv 1) (pe_un un_neg pe_int) (fun _ _ => rfl)) (pa_cons (pv 3) pa_nil)))))))), ?_⟩
  try dsimp only [L2H.cxH, cxOf, Cx.suite, Cx.tr, List.map_cons, List.map_nil]
  refine run_start (σ := [some (.ref q), some (.ref p), none, none]) rfl ?_
  clear tk
  obtain ⟨xs, ys, us, us1, a, a1, b, b1, hq, ha, ha1, hl1, hp, hb, hb1, ⟨n1, n2, n3, n4, n5, n6, n7, n8, n9, n10, n11⟩, fin⟩ := hT.close
  reads_via
  refine v_pop hq fun H1 c1 h1 => ?_
  reads_via
  rename_i t H2 nt e2 ht
  have hp2 := e2.look (c1.look n3 hp)
  refine v_pop hp2 fun H3 c3 h3 => ?_
  have hb3 := c3.look n8 (e2.look (c1.look n4 hb))
  have hq3 := c3.look n6 (e2.look h1)
  have ha3 := c3.look n7 (e2.look (c1.look n2 ha1))
  have hb13 := c3.look n9 (e2.look (c1.look n5 hb1))
  reads_via
  refine v_joinL (ss := (wrs cur).map S) (by rw [← txt_eq]; got_up) (by
      rw [show (((wrs cur).map S).map (·.length)).sum = ((wrs cur).map List.length).sum by rw [List.map_map]; exact congrArg List.sum (List.map_congr_left fun l _ => S_len l), List.length_map, wrs_len, show (Str.ofString " ").length = 1 from rfl]
      have := hsz
      unfold sz at this
      omega) ?_
  rw [glue_S]
  reads_via
  have hjl : (joinL [32] (wrs cur)).length + 2 ≤ 50000 + 2 := by
    have h1 := tup_len cur
    rw [wr_tup_len] at h1
    omega
  refine v_addS (by rw [show (Str.ofString "(").length = 1 from rfl, S_len]; omega) ?_
  rw [show Str.ofString "(" = S [40] from rfl, S_app]
  reads_via
  refine v_addS (by rw [show (Str.ofString ")").length = 1 from rfl, S_len]; simp; omega) ?_
  rw [show Str.ofString ")" = S [41] from rfl, S_app]
  reads_via
  refine v_ixLast hq3 ?_
  reads_via
  refine v_append ha3 (by omega) fun H4 c4 h4 => ?_
  have hp4 := c4.look n10 h3
  have hb4 := c4.look n11 hb13
  reads_via
  refine v_ixLast hp4 ?_
  reads_via
  refine v_append hb4 (by rw [txt_len]; omega) fun H5 c5 h5 => ?_
  reads_via
  exact k H5 (fin t H1 H2 H3 H4 H5 c1 h1 e2 ht c3 h3 c4 h4 c5 h5)
set_option maxHeartbeats 1000000 in
theorem ok__law_next {P : Program} {w : World} {K : PySem.W.Frag} {mg : Str → Option Value} {base : Heap} {c : Ad} {f : Addr} {fd : FuncData} (F : Fun K "_law_next" "_law_next" s__law_next f fd) (T : Txt K mg c)  :
    FnOk P w K mg base (L2N.CX P w) 1 f fd ["_law_mode", "_law_size", "_law_depth", "_law_char_here"] (sp__law_next c) := by
  refine GG.Fun.okN F sc__law_next (fun vs H Q E h => h.1) (fun cdv ar ou sh H vs Q E hr h => ?_)
  obtain ⟨_, m, n, d, b, rfl, k⟩ := h
  have tk := L2N.takes_of (X := cxOf (L2N.CX P w) P w K mg base ["_law_mode", "_law_size", "_law_depth", "_law_char_here", "_law_letters"] "_law_next" (defScope s__law_next) f cdv ar ou sh H E) rfl rfl rfl rfl
  refine ⟨_, (pss_cons (ps_asg pe_str (pg_name (i := 4) sc__law_next.nd rfl (Or.inl rfl)))
      (pss_cons (ps_if (pt_cmpR u_lt (pv 0) pe_int (nomark _))
      (pss_cons (ps_if (PW.pt (pw_and (pt_cmpR (u_eq K hr.units) (pv 3) pe_str (nomark _)) (pw_and1 (pt_cmpR u_lt (pv 2) pe_int (nomark _)))))
      (pss_one (ps_ret pe_int))
      pss_nil)
      (pss_cons (ps_if (PW.pt (pw_and (pt_cmpR (u_eq K hr.units) (pv 3) pe_str (nomark _)) (pw_and1 (pt_cmpR (u_eq K hr.units) (pv 0) pe_int (nomark _)))))
      (pss_one (ps_ret pe_int))
      pss_nil)
      (pss_cons (ps_if (pt_cmpR (u_inX K) (pv 3) pe_str rfl)
      (pss_one (ps_ret (pe_op (u_add K) pe_int (pe_callTy c_int2 (by rfl) T.b_int (by decide +kernel) (pa_cons (pe_cmpR (u_eq K hr.units) (pv 3) pe_str (nomark _)) pa_nil)))))
      pss_nil)
      (pss_cons (ps_if (pt_cmpR (u_inX K) (pv 3) pe_str rfl)
      (pss_one (ps_ret pe_int))
      pss_nil)
      (pss_one (ps_ret (pe_op u_sub (pe_op u_mul pe_int (pe_callTy c_int2 (by rfl) T.b_int (by decide +kernel) (pa_cons (pe_cmpR (u_inX K) (pv 3) (pv 4) rfl) pa_nil))) pe_int)))))))
      pss_nil)
      (pss_cons (ps_if (PW.pt (pw_and (pt_cmpR u_gt (pv 2) pe_int (nomark _)) (pw_and1 (pt_cmpR (u_inX K) (pv 3) pe_str rfl))))
      (pss_one (ps_ret (pe_op u_mul pe_int (pe_callTy c_int2 (by rfl) T.b_int (by decide +kernel) (pa_cons (pe_cmpR (u_eq K hr.units) (pv 3) pe_str (nomark _)) pa_nil)))))
      pss_nil)
      (pss_cons (ps_if (PW.pt (pw_or (PW.pt (pw_and (pt_cmpR (u_eq K hr.units) (pv 0) pe_int (nomark _)) (pw_and1 (pt_cmpR (u_inX K) (pv 3) pe_str rfl)))) (pw_or1 (PW.pt (pw_and (pt_cmpR (u_eq K hr.units) (pv 0) pe_int (nomark _)) (pw_and (pt_cmpR u_lt (pv 1) pe_int (nomark _)) (pw_and1 (pt_cmpR (u_inX K) (pv 3) pe_str rfl))))))))
      (pss_one (ps_ret pe_int))
      pss_nil)
      (pss_cons (ps_if (PW.pt (pw_and (pt_cmpR (u_eq K hr.units) (pv 0) pe_int (nomark _)) (pw_and (pt_cmpR u_lt (pv 1) pe_int (nomark _)) (pw_and1 (pt_cmpR (u_inX K) (pv 3) (pe_op (u_add K) (pv 4) pe_str) rfl)))))
      (pss_one (ps_ret pe_int))
      pss_nil)
      (pss_one (ps_ret (pe_un un_neg pe_int)))))))), ?_⟩
  try dsimp only [L2H.cxH, cxOf, Cx.suite, Cx.tr, List.map_cons, List.map_nil]
  refine run_start (σ := [some (.int (m : Int)), some (.int (n : Int)), some (.int (d : Int)), some (.str ⟨#[b]⟩), none]) rfl ?_
  clear tk
  reads_via
  refine br_d (fun c1 => ?_) (fun c1 => ?_)
  · have c1 : m < 2 := by omega
    reads_via
    refine br_ch (n := 40) rfl (fun c2 => ?_) (fun c2 => ?_)
    · subst c2
      reads_via
      refine br_d (fun c3 => ?_) (fun c3 => ?_)
      · reads_via
        exact nxt_is k (nx_a c1 (by omega))
      · end_str
        refine v_inB (mem_z _) ?_
        end_str
        refine v_inB (mem_19 _) ?_
        end_str
        refine v_inB (mem_letters _) ?_
        end_str
        exact nxt_is k ((nx_b c1 (by omega)).trans (by decide))
    · reads_via
      refine br_ch (n := 41) rfl (fun c3 => ?_) (fun c3 => ?_)
      · subst c3
        reads_via
        refine br_d (fun c4 => ?_) (fun c4 => ?_)
        · reads_via
          exact nxt_is k (nx_c c1 (by omega))
        · end_str
          refine v_inB (mem_z _) ?_
          end_str
          refine v_inB (mem_19 _) ?_
          end_str
          refine v_inB (mem_letters _) ?_
          end_str
          exact nxt_is k ((nx_d c1 (by omega)).trans (by decide))
      · reads_via
        refine v_inB (mem_z b) ?_
        reads_via
        refine br_d (fun c4 => ?_) (fun c4 => ?_)
        · rcases c4 with c4 | c4
          · subst c4
            end_str
            exact nxt_is k ((nx_e c1).trans (by decide))
          · subst c4
            end_str
            exact nxt_is k ((nx_f c1).trans (by decide))
        · reads_via
          refine v_inB (mem_19 b) ?_
          reads_via
          refine br_d (fun c5 => ?_) (fun c5 => ?_)
          · reads_via
            exact nxt_is k (nx_g c1 c5)
          · reads_via
            refine v_inB (mem_letters b) ?_
            reads_via
            exact nxt_is k (nx_h c1 c2 c3 c4 c5)
  · have c1 : 2 ≤ m := by omega
    o_reads
    refine run_cut (fun σ' H' => σ' = [some (.int (m : Int)), some (.int (n : Int)), some (.int (d : Int)), some (.str ⟨#[b]⟩), some (.str (Str.ofString "abcdefghijklmnopqrstuvwxyz"))] ∧ H' = H ∧ ¬ (0 < d ∧ (b = 32 ∨ b = 41))) (fun nx' hn => ?_) ?_
    · reads_via
      refine br_d (fun c2 => ?_) (fun c2 => ?_)
      · reads_via
        refine v_inB (mem_sp b) ?_
        reads_via
        refine br_d (fun c3 => ?_) (fun c3 => ?_)
        · rcases c3 with c3 | c3
          · subst c3
            end_str
            exact nxt_is k ((nx_i c1 (by omega)).trans (by decide))
          · subst c3
            end_str
            exact nxt_is k ((nx_j c1 (by omega)).trans (by decide))
        · reads_via
          exact hn _ _ ⟨rfl, rfl, fun z => c3 z.2⟩
      · reads_via
        exact hn _ _ ⟨rfl, rfl, by omega⟩
    · rintro σ' H' ⟨rfl, rfl, c2⟩
      by_cases m2 : m = 2
      · subst m2
        end_str
        refine v_inB (mem_19 b) ?_
        reads_via
        refine br_d (fun c3 => ?_) (fun c3 => ?_)
        · end_str
          exact nxt_is k (nx_k c1 c2 (.inl ⟨rfl, c3⟩))
        · end_str
          exact nxt_is k (nx_m c1 c2 (fun z => z.elim (fun z => c3 z.2) (fun z => by omega)) (fun z => by omega))
      by_cases m4 : m = 4
      · subst m4
        end_str
        refine br_d (fun c3 => ?_) (fun c3 => ?_)
        · end_str
          refine v_inB (mem_digits b) ?_
          end_str
          refine br_bl (fun c4 => ?_) (fun c4 => ?_)
          · end_str
            exact nxt_is k (nx_k c1 c2 (.inr ⟨rfl, by omega, c4⟩))
          · end_str
            exact nxt_is k (nx_m c1 c2 (fun z => z.elim (fun z => by omega) (fun z => c4 z.2.2)) (fun z => by omega))
        · end_str
          exact nxt_is k (nx_m c1 c2 (fun z => z.elim (fun z => by omega) (fun z => by omega)) (fun z => by omega))
      by_cases m5 : m = 5
      · subst m5
        end_str
        refine br_d (fun c3 => ?_) (fun c3 => ?_)
        · end_str
          refine v_addS (by decide) ?_
          rw [cat_words]
          refine v_inB (mem_words b) ?_
          end_str
          refine br_bl (fun c4 => ?_) (fun c4 => ?_)
          · end_str
            exact nxt_is k (nx_l c1 c2 ⟨rfl, by omega, c4⟩)
          · end_str
            exact nxt_is k (nx_m c1 c2 (fun z => z.elim (fun z => by omega) (fun z => by omega)) (fun z => c4 z.2.2))
        · end_str
          exact nxt_is k (nx_m c1 c2 (fun z => z.elim (fun z => by omega) (fun z => by omega)) (fun z => by omega))
      end_str
      exact nxt_is k (nx_m c1 c2 (fun z => z.elim (fun z => by omega) (fun z => by omega)) (fun z => by omega))
set_option maxHeartbeats 1000000 in
theorem ok__law_odd {P : Program} {w : World} {K : PySem.W.Frag} {mg : Str → Option Value} {base : Heap} {c : Ad} {f : Addr} {fd : FuncData} (F : Fun K "_law_odd" "_law_odd" s__law_odd f fd) (T : Txt K mg c)  :
    FnOk P w K mg base (L2N.CX P w) 1 f fd ["_law_at"] (sp__law_odd c) := by
  refine GG.Fun.okN F sc__law_odd (fun vs H Q E h => h.1) (fun cdv ar ou sh H vs Q E hr h => ?_)
  obtain ⟨_, n, rfl, hn, k⟩ := h
  have tk := L2N.takes_of (X := cxOf (L2N.CX P w) P w K mg base ["_law_at", "_law_odd_here"] "_law_odd" (defScope s__law_odd) f cdv ar ou sh H E) rfl rfl rfl rfl
  refine ⟨_, (pss_cons (ps_asg (pe_lst (pa_cons pe_str (pa_cons pe_str (pa_cons pe_str (pa_cons pe_str (pa_cons pe_str (pa_cons pe_str (pa_cons pe_str (pa_cons pe_str (pa_cons pe_str (pa_cons pe_str (pa_cons pe_str (pa_cons pe_str (pa_cons pe_str (pa_cons pe_str (pa_cons pe_str (pa_cons pe_str (pa_cons pe_str pa_nil)))))))))))))))))) (pg_name (i := 1) sc__law_odd.nd rfl (Or.inl rfl)))
      (pss_cons (ps_asg (pe_op (u_add K) (pv 1) (pe_lst (pa_cons pe_str (pa_cons pe_str (pa_cons pe_str (pa_cons pe_str (pa_cons pe_str (pa_cons pe_str (pa_cons pe_str (pa_cons pe_str (pa_cons pe_str (pa_cons pe_str (pa_cons pe_str (pa_cons pe_str (pa_cons pe_str pa_nil))))))))))))))) (pg_name (i := 1) sc__law_odd.nd rfl (Or.inl rfl)))
      (pss_one (ps_ret (pe_ix (u_ix K) (pv 1) (pv 0) (fun _ _ => rfl)))))), ?_⟩
  try dsimp only [L2H.cxH, cxOf, Cx.suite, Cx.tr, List.map_cons, List.map_nil]
  refine run_start (σ := [some (.int (n : Int)), none]) rfl ?_
  clear tk
  reads_via
  rename_i a1 H1 n1 e1 h1 a2 H2 n2 e2 h2
  refine v_addL (e2.look h1) h2 (by decide) fun p H3 np e3 h3 => ?_
  reads_via
  refine v_ixOdd h3 (by show n < 30; exact hn) (by decide +kernel) fun l hl => ?_
  reads_via
  exact k l H3 ((e1.trans e2).trans e3) hl
set_option maxHeartbeats 4000000 in
theorem ok__law_parsed {P : Program} {w : World} {K : PySem.W.Frag} {mg : Str → Option Value} {base : Heap} {c : Ad} {f : Addr} {fd : FuncData} (F : Fun K "_law_parsed" "_law_parsed" s__law_parsed f fd) (T : Txt K mg c)  :
    FnOkT P w K mg base 1 f fd ["_law_text"] (sp__law_parsed c) := by
  refine GG.Fun.okT F sc__law_parsed (fun vs H Q E h => h.1) (fun cdv ar ou sh H vs Q E hr h => ?_)
  obtain ⟨_, n, rfl, hok, hl, k⟩ := h
  have tk := L2N.takes_of (X := cxOf (L2N.CX P w) P w K mg base ["_law_text", "_law_rows", "_law_word_here", "_law_row"] "_law_parsed" (defScope s__law_parsed) f cdv ar ou sh H E) rfl rfl rfl rfl
  refine ⟨_, (psst_cons (PST.of (ps_asg (pe_lst (pa_cons (pe_lst pa_nil) pa_nil)) (pg_name (i := 1) sc__law_parsed.nd rfl (Or.inl rfl))))
      (psst_cons (pst_for (passes_of rfl) rfl (pit_listK K (pit_list (pet_words (CwR.pet_replT (CwR.pet_replC (pv 0) (by decide +kernel)) (by decide +kernel))))) (pg_name (i := 2) sc__law_parsed.nd rfl (Or.inl rfl))
      (pss_one (ps_if (pt_cmpR (u_eq K hr.units) (pv 2) pe_str (nomark _))
      (pss_one (ps_expr (pe_bmK K (pe_bm PySem.F.plainAttrs_list PySem.F.slot_list_append PySem.F.type_list_append m_append (pv 1) (pa_cons (pe_lst pa_nil) pa_nil)))))
      (pss_one (ps_if (pt_cmpR (u_eq K hr.units) (pv 2) pe_str (nomark _))
      (pss_cons (ps_asg (pe_callTy (c_tuple K) (by rfl) T.b_tuple (by decide +kernel) (pa_cons (pe_bm0K K (pe_bm0 PySem.F.plainAttrs_list PySem.F.slot_list_pop PySem.F.type_list_pop m_pop (pv 1))) pa_nil)) (pg_name (i := 3) sc__law_parsed.nd rfl (Or.inl rfl)))
      (pss_one (ps_expr (pe_bmK K (pe_bm PySem.F.plainAttrs_list PySem.F.slot_list_append PySem.F.type_list_append m_append (pe_ix (u_ix K) (pv 1) (pe_un un_neg pe_int) (fun _ _ => rfl)) (pa_cons (pv 3) pa_nil))))))
      (pss_one (ps_if (pt_cmpR (u_eq K hr.units) (pv 2) pe_str (nomark _))
      (pss_one (ps_expr (pe_bmK K (pe_bm PySem.F.plainAttrs_list PySem.F.slot_list_append PySem.F.type_list_append m_append (pe_ix (u_ix K) (pv 1) (pe_un un_neg pe_int) (fun _ _ => rfl)) (pa_cons pe_non pa_nil)))))
      (pss_one (ps_if (pt_cmpR (u_inX K) (pe_ix (u_ix K) (pv 2) pe_int (fun _ _ => rfl)) pe_str rfl)
      (pss_one (ps_expr (pe_bmK K (pe_bm PySem.F.plainAttrs_list PySem.F.slot_list_append PySem.F.type_list_append m_append (pe_ix (u_ix K) (pv 1) (pe_un un_neg pe_int) (fun _ _ => rfl)) (pa_cons (pv 2) pa_nil)))))
      (pss_one (ps_expr (pe_bmK K (pe_bm PySem.F.plainAttrs_list PySem.F.slot_list_append PySem.F.type_list_append m_append (pe_ix (u_ix K) (pv 1) (pe_un un_neg pe_int) (fun _ _ => rfl)) (pa_cons (pe_callTy c_int2 (by rfl) T.b_int (by decide +kernel) (pa_cons (pv 2) pa_nil)) pa_nil))))))))))))))
      (CwR.psst_one (PST.of (ps_ret (pe_ix (u_ix K) (pe_ix (u_ix K) (pv 1) pe_int (fun _ _ => rfl)) pe_int (fun _ _ => rfl))))))), ?_⟩
  try dsimp only [L2H.cxH, cxOf, Cx.suite, Cx.tr, List.map_cons, List.map_nil]
  refine run_start (σ := [some (.str (S (wr n))), none, none, none]) rfl ?_
  clear tk
  have hel := exp_len (wr n)
  have hwl : (toks n).length ≤ 200000 := by
    have h1 := words_le (S (exp (wr n)))
    rw [words_note hok, List.length_map, S_len] at h1
    omega
  have htot := pruns n hok ([], [])
  rw [show Str.ofString "(" = S [40] from rfl, show Str.ofString " ( " = S [32, 40, 32] from rfl, show Str.ofString ")" = S [41] from rfl, show Str.ofString " ) " = S [32, 41, 32] from rfl, show Str.ofString "-" = S [45] from rfl]
  reads_via
  rename_i r0 H1 nr0 e1 hr0 q H2 nq e2 hq
  refine v_repl1 (by simp; omega) ?_
  reads_via
  refine v_repl1 (by have := rep1_len 40 [32, 40, 32] (wr n); simp at *; omega) ?_
  reads_via
  rw [show rep1 41 [32, 41, 32] (rep1 40 [32, 40, 32] (wr n)) = exp (wr n) from rfl]
  refine v_wordsS (by omega) (words_note hok) fun ql H3 nql e3 hql => ?_
  obtain ⟨H0, hH0⟩ : ∃ H0, H0 = upd H ql (.lst ((toks n).map fun t => V.str (S t))) := ⟨_, rfl⟩
  have hqlH : H ql = none := (e1.trans e2).free nql
  have hR0 : RowsAt H0 H3 q [] [] := by
    have hr02 := e2.look hr0
    have n1 : r0 ≠ ql := ne_of_none hr02 nql
    have n2 : q ≠ ql := ne_of_none hq nql
    refine ⟨fun a o h => ?_, ?_, r0, [], [], e3.look hq, e3.look hr02, rfl, .nil, ?_, ?_⟩
    · by_cases ha : a = ql
      · rw [ha, hH0, upd_same] at h
        rw [ha, ← h]
        exact hql
      · rw [hH0, upd_ne ha] at h
        exact ((e1.trans e2).trans e3) a o h
    · rw [hH0, upd_ne n2]
      exact e1.free nq
    · have : q ≠ r0 := Ne.symm (ne_of_none hr0 nq)
      simp [this]
    · intro a ha
      simp at ha
      rw [ha, hH0, upd_ne n1]
      exact nr0
  have hH : ∀ H', Ext H0 H' → Ext H H' := fun H' e a o h => e a o (by rw [hH0, upd_ne (ne_of_none h hqlH)]; exact h)
  have hL : ∀ H', Ext H0 H' → H' ql = some (.lst ((toks n).map fun t => V.str (S t))) := fun H' e => e ql _ (by rw [hH0, upd_same])
  clear e1 e2 e3 hq hr0 nr0 nq nql hql
  reads_via
  refine r_seqL (hL H3 hR0.ext) ?_
  refine f_list (xs := (toks n).map fun t => V.str (S t)) (fun i σ H' => ∃ cur out v2 v3, prun ([], []) ((toks n).take i) = some (cur, out) ∧ (∀ r ∈ cur :: out, r.length ≤ i) ∧ out.length ≤ i ∧ RowsAt H0 H' q cur out ∧ σ = [some (.str (S (wr n))), some (.ref q), v2, v3]) ⟨[], [], none, none, rfl, fun r hr => by simp at hr; simp [hr], by simp, hR0, rfl⟩ ?_ ?_ ?_
  · rintro i σ H' hi ⟨cur, out, v2, v3, _, _, _, hR, rfl⟩
    exact SqL.of (hL H' hR.ext)
  · rintro i x σ H' hx ⟨cur, out, v2, v3, hpr, hlen, hol, hR, rfl⟩
    obtain ⟨t, ht, rfl⟩ := map_at hx
    have hil := (List.getElem?_eq_some_iff.mp ht).1
    obtain ⟨⟨cur2, out2⟩, hpr2⟩ := prun_take htot (i + 1)
    have hst := prun_step hpr ht hpr2
    have hlen2 := pstep_len hst hlen
    have hol2 : out2.length ≤ i + 1 := by have := pstep_out hst; simp at this; omega
    have next : ∀ v2 v3 H2, RowsAt H0 H2 q cur2 out2 → ∃ cur out v2' v3', prun ([], []) ((toks n).take (i + 1)) = some (cur, out) ∧ (∀ r ∈ cur :: out, r.length ≤ i + 1) ∧ out.length ≤ i + 1 ∧ RowsAt H0 H2 q cur out ∧ ([some (.str (S (wr n))), some (.ref q), v2, v3] : L2.St) = [some (.str (S (wr n))), some (.ref q), v2', v3'] := fun v2 v3 H2 h => ⟨cur2, out2, v2, v3, hpr2, hlen2, hol2, h, rfl⟩
    have hcl := hlen cur (.head _)
    unfold pstep at hst
    reads_via
    rw [S_eq]
    by_cases t40 : t = [40]
    · refine br_yes t40 ?_
      rw [if_pos t40] at hst
      cases hst
      obtain ⟨r1, xs, us, hq1, hr1, hc1, hxl, kapp, kpush⟩ := rows_last hR
      reads_via
      rename_i p1 H4 np1 e4 hp1
      refine v_append (e4.look hq1) (by simp; omega) fun H5 b5 h5 => ?_
      reads_via
      exact next _ _ _ (kpush p1 H4 H5 np1 e4 hp1 b5 h5)
    rw [if_neg t40] at hst
    refine br_no t40 ?_
    reads_via
    rw [S_eq]
    by_cases t41 : t = [41]
    · refine br_yes t41 ?_
      rw [if_pos t41] at hst
      cases out with
      | nil => cases hst
      | cons r out =>
        cases hst
        obtain ⟨e0, nq, r0', rs, us, hq, hr0, hc, hp, hnd, hfr⟩ := hR
        obtain ⟨r1, rs', rfl, ⟨ws, hr1, hw⟩, hp'⟩ : ∃ r1 rs', rs = r1 :: rs' ∧ (∃ ws, H' r1 = some (.lst ws) ∧ NtVs H' r ws) ∧ Paired (fun a xs => ∃ ws, H' a = some (.lst ws) ∧ NtVs H' xs ws) rs' out2 := by
          cases hp with
          | cons h t => exact ⟨_, _, rfl, h, t⟩
        have hwlen := hw.len
        have hrl := hlen r (.tail _ (.head _))
        simp only [List.nodup_cons, List.mem_cons, not_or] at hnd
        obtain ⟨⟨nq0, nq1, nqr⟩, ⟨n01, n0r⟩, n1r, ndr⟩ := hnd
        reads_via
        refine v_pop hq fun H4 b4 h4 => ?_
        have hr0' := b4.look (Ne.symm nq0) hr0
        have hr1' := b4.look (Ne.symm nq1) hr1
        have hc1 := NtVs.mono (b4.tups hq) cur us hc
        have hw1 := NtVs.mono (b4.tups hq) r ws hw
        rw [List.reverse_cons, List.map_append, List.map_singleton] at h4
        reads_via
        rename_i tp H5 ntp e5 htp
        refine v_ixLast (e5.look h4) ?_
        reads_via
        have hr1'' := e5.look hr1'
        refine v_append hr1'' (by omega) fun H6 b6 h6 => ?_
        reads_via
        have tp6 : H6 tp = some (.tup us) := b6.lookK hr1'' htp (by intro z; cases z)
        have t46 : ∀ a vs, H4 a = some (.tup vs) → H6 a = some (.tup vs) := fun a vs h => b6.tups hr1'' a vs (e5.tups a vs h)
        refine next _ _ H6 ⟨fun a o h => b6 a o (ne_of_none h (hfr r1 (by simp))) (e5 a o (b4 a o (ne_of_none h nq) (e0 a o h))), nq, r1, rs', ws ++ [.ref tp], ?_, h6, ?_, ?_, ?_, fun a ha => hfr a (by simp at ha ⊢; exact .inr ha)⟩
        · rw [b6 q _ nq1 (e5.look h4)]
        · exact NtVs.snoc (NtVs.mono t46 r ws hw1) ⟨tp, us, rfl, tp6, NtVs.mono t46 cur us hc1⟩
        · refine paired_mem hp' fun a xs ha h => ?_
          obtain ⟨zs, hz, hn⟩ := h
          have na1 : a ≠ r1 := fun z => n1r (z ▸ ha)
          have naq : a ≠ q := fun z => nqr (z ▸ ha)
          exact ⟨zs, b6 a _ na1 (e5.look (b4 a _ naq hz)), NtVs.mono t46 xs zs (NtVs.mono (b4.tups hq) xs zs hn)⟩
        · simp only [List.nodup_cons, List.mem_cons, not_or]
          exact ⟨⟨nq1, nqr⟩, n1r, ndr⟩
    rw [if_neg t41] at hst
    cases hst
    refine br_no t41 ?_
    obtain ⟨r1, xs, us, hq1, hr1, hc1, hxl, kapp, kpush⟩ := rows_last hR
    have hul := hc1.len
    rcases toks_ok n hok t (List.mem_of_getElem? ht) with h | h | ⟨m, hm, hwm, hk⟩
    · exact absurd h t40
    · exact absurd h t41
    reads_via
    rw [S_eq]
    by_cases t45 : t = [45]
    · refine br_yes t45 ?_
      reads_via
      refine v_ixLast hq1 ?_
      reads_via
      refine v_append hr1 (by omega) fun H5 b5 h5 => ?_
      reads_via
      exact next _ _ _ (kapp _ _ H5 (by unfold tnote; rw [if_pos t45]; rfl) b5 h5)
    refine br_no t45 ?_
    have hne : ∃ d ds, t = d :: ds := by
      cases t with
      | nil =>
        rcases hk with rfl | ⟨l, rfl⟩ | ⟨j, rfl⟩
        · cases hwm
        · exact absurd hwm.symm (word_c hm).1
        · exact absurd hwm.symm (itx_c j).1
      | cons d ds => exact ⟨d, ds, rfl⟩
    obtain ⟨d, ds, rfl⟩ := hne
    have htlen : (d :: ds).length ≤ 300 := by
      rcases hk with rfl | ⟨l, rfl⟩ | ⟨j, rfl⟩
      · rw [hwm]; decide
      · obtain ⟨_, _, _, _, _, h24⟩ := id hm
        rw [hwm]
        exact Nat.le_trans h24 (by decide)
      · rw [hwm]
        have h1 := dig_len 200 j.natAbs hm (by decide)
        show (itx j).length ≤ 300
        unfold itx
        split
        · simp; omega
        · omega
    reads_via
    refine v_ixS (j := 0) (by rw [S_len, sizeLine_eq]; omega) rfl ?_
    reads_via
    refine v_inB (mem_letters d) ?_
    reads_via
    refine br_bl (fun c1 => ?_) (fun c1 => ?_)
    · reads_via
      refine v_ixLast hq1 ?_
      reads_via
      refine v_append hr1 (by omega) fun H5 b5 h5 => ?_
      reads_via
      exact next _ _ _ (kapp _ _ H5 (by unfold tnote; rw [if_neg t45, if_pos (show letter ((d :: ds).headD 0) = true from c1)]; rfl) b5 h5)
    · reads_via
      refine v_ixLast hq1 ?_
      reads_via
      have hit : intText? (S (d :: ds)) = some (tval (d :: ds)) := by
        rcases hk with rfl | ⟨l, rfl⟩ | ⟨j, rfl⟩
        · exact absurd hwm t45
        · obtain ⟨d', ds', e', hd', _⟩ := id hm
          have h9 : d :: ds = d' :: ds' := hwm.trans e'
          injection h9 with h9 _
          rw [h9] at c1
          exact absurd hd' c1
        · have h9 : d :: ds = itx j := hwm
          have h10 : tnote (itx j) = .int j := (tok_int hm).note
          have h11 : tval (d :: ds) = j := by
            rw [← h9] at h10
            unfold tnote at h10
            rw [if_neg t45, if_neg (show ¬ letter ((d :: ds).headD 0) = true from c1)] at h10
            injection h10
          rw [h11, h9]
          exact itx_text hm
      refine v_intS hit (by rw [S_len]; omega) ?_
      reads_via
      refine v_append hr1 (by omega) fun H5 b5 h5 => ?_
      reads_via
      exact next _ _ _ (kapp _ _ H5 (by unfold tnote; rw [if_neg t45, if_neg (show ¬ letter ((d :: ds).headD 0) = true from c1)]; rfl) b5 h5)
  · rintro σ H' ⟨cur, out, v2, v3, hpr, hlen, hol, hR, rfl⟩
    rw [List.length_map, List.take_length, htot] at hpr
    cases hpr
    obtain ⟨e0, nq, r0', rs, us, hq, hr0, hc, hp, hnd, hfr⟩ := hR
    cases hp
    obtain ⟨u, ws, rfl, hu, hws⟩ := hc
    rw [show ws = [] from hws] at hr0
    reads_via
    exact k u H' (hH H' e0) hu
set_option maxHeartbeats 4000000 in
theorem ok_read_note {P : Program} {w : World} {K : PySem.W.Frag} {mg : Str → Option Value} {base : Heap} {c : Ad} {f : Addr} {fd : FuncData} (F : Fun K "read_note" "read_note" s_read_note f fd) (T : Txt K mg c) (F_token_note : Fn P w K mg base "token_note" 1 ["token"] [] (sp_token_note c)) (F_goes_on : Fn P w K mg base "goes_on" 1 ["token", "char"] [] (sp_goes_on c)) (F_close_row : Fn P w K mg base "close_row" 1 ["rows"] [] (sp_close_row c)) :
    FnOk P w K mg base (L2N.CX P w) 2 f fd ["text"] (sp_read_note c) := by
  refine GG.Fun.okN F sc_read_note (fun vs H Q E h => h.1) (fun cdv ar ou sh H vs Q E hr h => ?_)
  obtain ⟨_, l, rfl, hl, kE1, kE2, kQ⟩ := h
  have tk := L2N.takes_of (X := cxOf (L2N.CX P w) P w K mg base ["text", "rows", "token", "last", "at", "char", "inside"] "read_note" (defScope s_read_note) f cdv ar ou sh H E) rfl rfl rfl rfl
  refine ⟨_, (pss_cons (ps_asg (pe_lst (pa_cons (pe_lst pa_nil) pa_nil)) (pg_name (i := 1) sc_read_note.nd rfl (Or.inl rfl)))
      (pss_cons (ps_asg pe_str (pg_name (i := 2) sc_read_note.nd rfl (Or.inl rfl)))
      (pss_cons (ps_asg pe_str (pg_name (i := 3) sc_read_note.nd rfl (Or.inl rfl)))
      (pss_cons (ps_for (passes_of rfl) rfl (pi_enumS (by rfl) T.b_enumerate (pa_cons (pv 0) pa_nil)) (pg_tupK K (n := 2) (pg_tup (n := 2) (by rfl) (pgs_cons (pg_name (i := 4) sc_read_note.nd rfl (Or.inl rfl)) (pgs_cons (pg_name (i := 5) sc_read_note.nd rfl (Or.inl rfl)) pgs_nil))))
      (pss_cons (ps_asg (pe_cmpR u_gt (pe_callB (c_len K) (by rfl) T.b_len (by decide +kernel) (pa_cons (pv 1) pa_nil)) pe_int (nomark _)) (pg_name (i := 6) sc_read_note.nd rfl (Or.inl rfl)))
      (pss_one (ps_if (PW.pt (pw_and (pt_cmpR (u_eq K hr.units) (pv 3) pe_str (nomark _)) (pw_and1 (pt_tru K (pe_fn F_goes_on (hr.mono (by decide)) (ps_of tk) (pa_cons (pv 2) (pa_cons (pv 5) pa_nil))) (by intro _; rfl)))))
      (pss_one (ps_asg (pe_op (u_add K) (pv 2) (pv 5)) (pg_name (i := 2) sc_read_note.nd rfl (Or.inl rfl))))
      (pss_one (ps_if (PW.pt (pw_and (pt_cmpR (u_inX K) (pv 3) (pe_tup (pa_cons pe_str (pa_cons pe_str pa_nil))) rfl) (pw_and (pt_tru K (pv 6) (by intro _; rfl)) (pw_and1 (pt_cmpR (u_inX K) (pv 5) pe_str rfl)))))
      (pss_cons (ps_if (pt_cmpR (u_eq K hr.units) (pv 3) pe_str (nomark _))
      (pss_one (ps_expr (pe_bmK K (pe_bm PySem.F.plainAttrs_list PySem.F.slot_list_append PySem.F.type_list_append m_append (pe_ix (u_ix K) (pv 1) (pe_un un_neg pe_int) (fun _ _ => rfl)) (pa_cons (pe_fn F_token_note (hr.mono (by decide)) (ps_of tk) (pa_cons (pv 2) pa_nil)) pa_nil)))))
      pss_nil)
      (pss_cons (ps_asg pe_str (pg_name (i := 3) sc_read_note.nd rfl (Or.inl rfl)))
      (pss_one (ps_if (pt_cmpR (u_eq K hr.units) (pv 5) pe_str (nomark _))
      (pss_cons (ps_expr (pe_fn F_close_row (hr.mono (by decide)) (ps_of tk) (pa_cons (pv 1) pa_nil)))
      (pss_one (ps_asg pe_str (pg_name (i := 3) sc_read_note.nd rfl (Or.inl rfl)))))
      pss_nil))))
      (pss_one (ps_if (PW.pt (pw_and (pt_cmpR (u_eq K hr.units) (pv 3) pe_str (nomark _)) (pw_and1 (pt_cmpR (u_eq K hr.units) (pv 5) pe_str (nomark _)))))
      (pss_cons (ps_expr (pe_fn F_close_row (hr.mono (by decide)) (ps_of tk) (pa_cons (pv 1) pa_nil)))
      (pss_one (ps_asg pe_str (pg_name (i := 3) sc_read_note.nd rfl (Or.inl rfl)))))
      (pss_one (ps_if (PW.pt (pw_and (pt_cmpR (u_inX K) (pv 3) (pe_tup (pa_cons pe_str (pa_cons pe_str (pa_cons pe_str pa_nil)))) rfl) (pw_and (pt_cmpR (u_eq K hr.units) (pv 5) pe_str (nomark _)) (pw_and1 (pt_cmpR u_le (pe_callB (c_len K) (by rfl) T.b_len (by decide +kernel) (pa_cons (pv 1) pa_nil)) (pe_const T.k_DEEPEST) (nomark _))))))
      (pss_cons (ps_expr (pe_bmK K (pe_bm PySem.F.plainAttrs_list PySem.F.slot_list_append PySem.F.type_list_append m_append (pv 1) (pa_cons (pe_lst pa_nil) pa_nil))))
      (pss_one (ps_asg pe_str (pg_name (i := 3) sc_read_note.nd rfl (Or.inl rfl)))))
      (pss_one (ps_if (PW.pt (pw_and (pt_cmpR (u_inX K) (pv 3) (pe_tup (pa_cons pe_str (pa_cons pe_str (pa_cons pe_str pa_nil)))) rfl) (pw_and1 (pt_cmpR (u_inX K) (pv 5) (pe_const T.k_FIRST_CHARS) rfl))))
      (pss_cons (ps_asg (pv 5) (pg_name (i := 2) sc_read_note.nd rfl (Or.inl rfl)))
      (pss_one (ps_asg pe_str (pg_name (i := 3) sc_read_note.nd rfl (Or.inl rfl)))))
      (pss_one (ps_raiseErr T.e_BadNote hr tk (pa_cons (pv 4) pa_nil)))))))))))))))
      (pss_cons (ps_if (pt_cmpR (u_eq K hr.units) (pv 3) pe_str (nomark _))
      (pss_one (ps_expr (pe_bmK K (pe_bm PySem.F.plainAttrs_list PySem.F.slot_list_append PySem.F.type_list_append m_append (pe_ix (u_ix K) (pv 1) (pe_un un_neg pe_int) (fun _ _ => rfl)) (pa_cons (pe_fn F_token_note (hr.mono (by decide)) (ps_of tk) (pa_cons (pv 2) pa_nil)) pa_nil)))))
      pss_nil)
      (pss_cons (ps_if (PW.pt (pw_or (pt_cmpR u_gt (pe_callB (c_len K) (by rfl) T.b_len (by decide +kernel) (pa_cons (pv 1) pa_nil)) pe_int (nomark _)) (pw_or1 (pt_not (pt_tru K (pe_ix (u_ix K) (pv 1) pe_int (fun _ _ => rfl)) (by intro _; rfl))))))
      (pss_one (ps_raiseErr T.e_BadNote hr tk (pa_cons (pe_callB (c_len K) (by rfl) T.b_len (by decide +kernel) (pa_cons (pv 0) pa_nil)) pa_nil)))
      pss_nil)
      (pss_one (ps_ret (pe_ix (u_ix K) (pe_ix (u_ix K) (pv 1) pe_int (fun _ _ => rfl)) pe_int (fun _ _ => rfl)))))))))), ?_⟩
  try dsimp only [L2H.cxH, cxOf, Cx.suite, Cx.tr, List.map_cons, List.map_nil]
  refine run_start (σ := [some (.str (S l)), none, none, none, none, none, none]) rfl ?_
  clear tk
  reads_via
  rename_i r H1 nr e1 h1 q H2 nq e2 h2
  have hR0 : RowsAt H H2 q [] [] := by
    have nqr : q ≠ r := Ne.symm (ne_of_none h1 nq)
    exact ⟨e1.trans e2, e1.free nq, r, [], [], h2, e2.look h1, rfl, .nil, by simp [nqr], fun a ha => by rw [List.mem_singleton.mp ha]; exact nr⟩
  refine f_it walk_enumS (fun i σ H' => ∃ s v4 v5 v6, GN.run GN.start (l.take i) = some s ∧ GN.Inv i s ∧ RowsAt H H' q s.cur s.out ∧ σ = [some (.str (S l)), some (.ref q), some (.str (S s.tok)), some (.str (laS s.last)), v4, v5, v6]) ⟨GN.start, none, none, none, rfl, inv_start, hR0, rfl⟩ (fun _ _ _ _ _ => trivial) ?_ ?_
  · rintro i x σ H3 H4 hi ⟨⟨cur, out, tok, last⟩, v4, v5, v6, hrun, hinv, hR3, rfl⟩ ⟨T0, c0, rfl, nT, hc, rfl⟩
    have e3 : Ext H3 (upd H3 T0 (.tup [.int (i : Nat), .str ⟨#[c0]⟩])) := Ext.new nT
    have hT : upd H3 T0 (.tup [.int (i : Nat), .str ⟨#[c0]⟩]) T0 = some (.tup [.int (i : Nat), .str ⟨#[c0]⟩]) := upd_same
    have hR := hR3.grow e3
    rw [show (S l).cps[i]? = l[i]? by simp [S]] at hc
    have hi' : i < l.length := (List.getElem?_eq_some_iff.mp hc).1
    generalize upd H3 T0 (.tup [.int (i : Nat), .str ⟨#[c0]⟩]) = H4 at hR hT
    clear hR3 nT e3
    obtain ⟨r0, xs, us, hq, hr0, hnu, hxl, happ, hpush⟩ := rows_last hR
    have hul := hnu.len
    have hcl := hinv.cur
    have htl := hinv.len
    have hrw := hinv.rows
    have eH := hR.ext
    dsimp only at hrun hinv hR hnu hxl happ hpush hul hcl htl hrw
    have hxl1 : (xs ++ [V.ref r0]).length = out.length + 1 := by rw [List.length_append, List.length_singleton, hxl]
    have hin : decide (1 < (((xs ++ [V.ref r0]).length : Nat) : Int)) = decide (out ≠ []) := by
      refine dec_congr ?_
      rw [List.length_append, List.length_singleton, hxl]
      cases out <;> simp <;> omega
    have next : ∀ s' v4 v5 v6 H', GN.step ⟨cur, out, tok, last⟩ c0 = some s' → RowsAt H H' q s'.cur s'.out → ∃ s v4' v5' v6', GN.run GN.start (l.take (i + 1)) = some s ∧ GN.Inv (i + 1) s ∧ RowsAt H H' q s.cur s.out ∧ ([some (.str (S l)), some (.ref q), some (.str (S s'.tok)), some (.str (laS s'.last)), v4, v5, v6] : L2.St) = [some (.str (S l)), some (.ref q), some (.str (S s.tok)), some (.str (laS s.last)), v4', v5', v6'] :=
      fun s' v4 v5 v6 H' hs hr => ⟨s', v4, v5, v6, run_take hrun hc hs, inv_step hinv hs, hr, rfl⟩
    cases last with
    | token =>
      dsimp only [laS]
      reads_via
      rw [hin]
      refine ⟨rfl, tok, c0, rfl, hinv.tok rfl, ?_⟩
      reads_via
      refine br_b (fun g1 => ?_) (fun g1 => ?_)
      · reads_via
        refine v_addS (by rw [S_len]; show tok.length + 1 ≤ 1000000; omega) ?_
        rw [show (⟨#[c0]⟩ : Str) = S [c0] from rfl, S_app]
        reads_via
        exact next ⟨cur, out, tok ++ [c0], .token⟩ _ _ _ H4 (by unfold GN.step; rw [if_pos ⟨rfl, g1⟩]) hR
      reads_via
      rename_i t5 H5 nt5 e5 ht5
      refine v_inTS (ss := [Str.ofString "token", Str.ofString "item"]) (by got_up) ?_
      reads_via
      refine br_yes (by first | decide | simp) ?_
      reads_via
      refine br_d (fun c2 => ?_) (fun c2 => ?_)
      · reads_via
        refine v_inS ?_
        rw [mem_sp]
        reads_via
        refine br_d (fun c3 => ?_) (fun c3 => ?_)
        · obtain ⟨ro, out', rfl⟩ : ∃ a b, out = a :: b := by
            cases out with
            | nil => exact absurd rfl c2
            | cons a b => exact ⟨a, b, rfl⟩
          reads_via
          refine v_ixLast (by got_up) ?_
          reads_via
          refine ⟨rfl, tok, rfl, hinv.tok rfl, fun vt hvt => ?_⟩
          reads_via
          obtain ⟨r0', xs', us', hq', hr0', hnu', _, happ', _⟩ := rows_last (hR.grow e5)
          obtain rfl : r0' = r0 := by
            have := hq'.symm.trans (e5.look hq)
            have h1 := congrArg (fun o => match o with | some (HO.lst zs) => zs.getLast? | _ => none) this
            simpa using h1
          refine v_append hr0' (by have := hnu'.len; omega) fun H6 b6 h6 => ?_
          have hR6 := happ' _ _ H6 hvt b6 h6
          reads_via
          try rw [show (⟨#[c0]⟩ : Str) = S [c0] from rfl]
          rw [show Str.ofString ")" = S [41] from rfl, S_eq, dec_congr (q := c0 = 41) (by simp)]
          refine br_d (fun c4 => ?_) (fun c4 => ?_)
          · subst c4
            reads_via
            refine ⟨rfl, q, H, cur ++ [tnote tok], ro, out', rfl, hR6, by have := hrw ro (by simp); omega, fun H28 hR28 => ?_⟩
            reads_via
            exact next ⟨ro ++ [.tup (cur ++ [tnote tok])], out', tok, .item⟩ _ _ _ H28 (by unfold GN.step; rw [if_neg (by simp [g1]), if_pos ⟨by simp, by simp, .inr rfl⟩, if_pos rfl]; rfl) hR28
          · reads_via
            exact next ⟨cur ++ [tnote tok], ro :: out', tok, .space⟩ _ _ _ _ (by unfold GN.step; rw [if_neg (by simp [g1]), if_pos ⟨by simp, by simp, c3⟩, if_neg c4]; rfl) (hR6)
        · end_str
          rename_i t7 H7 nt7 e7 ht7
          refine v_inTS (ss := [Str.ofString "start", Str.ofString "bracket", Str.ofString "space"]) (by got_up) ?_
          reads_via
          refine br_no (by first | decide | simp) ?_
          reads_via
          rename_i t8 H8 nt8 e8 ht8
          refine v_inTS (ss := [Str.ofString "start", Str.ofString "bracket", Str.ofString "space"]) (by got_up) ?_
          reads_via
          refine br_no (by first | decide | simp) ?_
          reads_via
          refine v_raise fun d H29 nd e29 h29 => ?_
          exact kE1 i _ c0 hrun hc (by unfold GN.step; rw [if_neg (by simp [g1]), if_neg (by simp [c3]), if_neg (by simp), if_neg (by simp [GN.open_]), if_neg (by simp [GN.open_])]) d H29 ((((eH.trans e5).trans e7).trans e8).trans e29) h29
      · end_str
        rename_i t7 H7 nt7 e7 ht7
        refine v_inTS (ss := [Str.ofString "start", Str.ofString "bracket", Str.ofString "space"]) (by got_up) ?_
        reads_via
        refine br_no (by first | decide | simp) ?_
        reads_via
        rename_i t8 H8 nt8 e8 ht8
        refine v_inTS (ss := [Str.ofString "start", Str.ofString "bracket", Str.ofString "space"]) (by got_up) ?_
        reads_via
        refine br_no (by first | decide | simp) ?_
        reads_via
        refine v_raise fun d H29 nd e29 h29 => ?_
        exact kE1 i _ c0 hrun hc (by unfold GN.step; rw [if_neg (by simp [g1]), if_neg (by simp [c2]), if_neg (by simp), if_neg (by simp [GN.open_]), if_neg (by simp [GN.open_])]) d H29 ((((eH.trans e5).trans e7).trans e8).trans e29) h29
    | item =>
      dsimp only [laS]
      end_str
      rw [hin]
      rename_i t5 H5 nt5 e5 ht5
      refine v_inTS (ss := [Str.ofString "token", Str.ofString "item"]) (by got_up) ?_
      reads_via
      refine br_yes (by first | decide | simp) ?_
      reads_via
      refine br_d (fun c2 => ?_) (fun c2 => ?_)
      · reads_via
        refine v_inS ?_
        rw [mem_sp]
        reads_via
        refine br_d (fun c3 => ?_) (fun c3 => ?_)
        · obtain ⟨ro, out', rfl⟩ : ∃ a b, out = a :: b := by
            cases out with
            | nil => exact absurd rfl c2
            | cons a b => exact ⟨a, b, rfl⟩
          end_str
          try rw [show (⟨#[c0]⟩ : Str) = S [c0] from rfl]
          rw [show Str.ofString ")" = S [41] from rfl, S_eq, dec_congr (q := c0 = 41) (by simp)]
          refine br_d (fun c4 => ?_) (fun c4 => ?_)
          · subst c4
            reads_via
            refine ⟨rfl, q, H, cur, ro, out', rfl, hR.grow e5, by have := hrw ro (by simp); omega, fun H28 hR28 => ?_⟩
            reads_via
            exact next ⟨ro ++ [.tup (cur)], out', tok, .item⟩ _ _ _ H28 (by unfold GN.step; rw [if_neg (by simp), if_pos ⟨by simp, by simp, .inr rfl⟩, if_pos rfl]; rfl) hR28
          · reads_via
            exact next ⟨cur, ro :: out', tok, .space⟩ _ _ _ _ (by unfold GN.step; rw [if_neg (by simp), if_pos ⟨by simp, by simp, c3⟩, if_neg c4]; rfl) (hR.grow e5)
        · end_str
          rename_i t7 H7 nt7 e7 ht7
          refine v_inTS (ss := [Str.ofString "start", Str.ofString "bracket", Str.ofString "space"]) (by got_up) ?_
          reads_via
          refine br_no (by first | decide | simp) ?_
          reads_via
          rename_i t8 H8 nt8 e8 ht8
          refine v_inTS (ss := [Str.ofString "start", Str.ofString "bracket", Str.ofString "space"]) (by got_up) ?_
          reads_via
          refine br_no (by first | decide | simp) ?_
          reads_via
          refine v_raise fun d H29 nd e29 h29 => ?_
          exact kE1 i _ c0 hrun hc (by unfold GN.step; rw [if_neg (by simp), if_neg (by simp [c3]), if_neg (by simp), if_neg (by simp [GN.open_]), if_neg (by simp [GN.open_])]) d H29 ((((eH.trans e5).trans e7).trans e8).trans e29) h29
      · end_str
        rename_i t7 H7 nt7 e7 ht7
        refine v_inTS (ss := [Str.ofString "start", Str.ofString "bracket", Str.ofString "space"]) (by got_up) ?_
        reads_via
        refine br_no (by first | decide | simp) ?_
        reads_via
        rename_i t8 H8 nt8 e8 ht8
        refine v_inTS (ss := [Str.ofString "start", Str.ofString "bracket", Str.ofString "space"]) (by got_up) ?_
        reads_via
        refine br_no (by first | decide | simp) ?_
        reads_via
        refine v_raise fun d H29 nd e29 h29 => ?_
        exact kE1 i _ c0 hrun hc (by unfold GN.step; rw [if_neg (by simp), if_neg (by simp [c2]), if_neg (by simp), if_neg (by simp [GN.open_]), if_neg (by simp [GN.open_])]) d H29 ((((eH.trans e5).trans e7).trans e8).trans e29) h29
    | start =>
      dsimp only [laS]
      end_str
      rw [hin]
      rename_i t5 H5 nt5 e5 ht5
      refine v_inTS (ss := [Str.ofString "token", Str.ofString "item"]) (by got_up) ?_
      reads_via
      refine br_no (by first | decide | simp) ?_
      end_str
      rename_i t7 H7 nt7 e7 ht7
      refine v_inTS (ss := [Str.ofString "start", Str.ofString "bracket", Str.ofString "space"]) (by got_up) ?_
      reads_via
      refine br_yes (by first | decide | simp) ?_
      reads_via
      try rw [show (⟨#[c0]⟩ : Str) = S [c0] from rfl]
      rw [show Str.ofString "(" = S [40] from rfl, S_eq, dec_congr (q := c0 = 40) (by simp)]
      refine br_d (fun c5 => ?_) (fun c5 => ?_)
      · reads_via
        refine br_d (fun c6 => ?_) (fun c6 => ?_)
        · subst c5
          reads_via
          rename_i p1 H21 np1 e21 hp1
          refine v_append (by got_up) (by have := hinv.dep; dsimp only at this; simp; omega) fun H22 b22 h22 => ?_
          reads_via
          exact next ⟨[], cur :: out, tok, .bracket⟩ _ _ _ H22 (by unfold GN.step; rw [if_neg (by simp), if_neg (by simp), if_neg (by simp), if_pos ⟨rfl, rfl, by show out.length + 1 ≤ 100; omega⟩]) (hpush p1 H21 H22 (e5.free (e7.free (np1))) ((e5.trans e7).trans e21) hp1 b22 h22)
        · end_str
          rename_i t8 H8 nt8 e8 ht8
          refine v_inTS (ss := [Str.ofString "start", Str.ofString "bracket", Str.ofString "space"]) (by got_up) ?_
          reads_via
          refine br_yes (by first | decide | simp) ?_
          reads_via
          refine v_inS ?_
          rw [mem_firsts]
          reads_via
          refine br_b (fun c7 => ?_) (fun c7 => ?_)
          · reads_via
            exact next ⟨cur, out, [c0], .token⟩ _ _ _ _ (step_first rfl c7) (hR.grow ((e5.trans e7).trans e8))
          · reads_via
            refine v_raise fun d H29 nd e29 h29 => ?_
            exact kE1 i _ c0 hrun hc (by unfold GN.step; rw [if_neg (by simp), if_neg (by simp), if_neg (by simp), if_neg (fun z => c6 (by have : out.length + 1 ≤ 100 := z.2.2; omega)), if_neg (by simp [c7])]) d H29 ((((eH.trans e5).trans e7).trans e8).trans e29) h29
      · reads_via
        rename_i t8 H8 nt8 e8 ht8
        refine v_inTS (ss := [Str.ofString "start", Str.ofString "bracket", Str.ofString "space"]) (by got_up) ?_
        reads_via
        refine br_yes (by first | decide | simp) ?_
        reads_via
        refine v_inS ?_
        rw [mem_firsts]
        reads_via
        refine br_b (fun c7 => ?_) (fun c7 => ?_)
        · reads_via
          exact next ⟨cur, out, [c0], .token⟩ _ _ _ _ (step_first rfl c7) (hR.grow ((e5.trans e7).trans e8))
        · reads_via
          refine v_raise fun d H29 nd e29 h29 => ?_
          exact kE1 i _ c0 hrun hc (by unfold GN.step; rw [if_neg (by simp), if_neg (by simp), if_neg (by simp), if_neg (by simp [c5]), if_neg (by simp [c7])]) d H29 ((((eH.trans e5).trans e7).trans e8).trans e29) h29
    | space =>
      dsimp only [laS]
      end_str
      rw [hin]
      rename_i t5 H5 nt5 e5 ht5
      refine v_inTS (ss := [Str.ofString "token", Str.ofString "item"]) (by got_up) ?_
      reads_via
      refine br_no (by first | decide | simp) ?_
      end_str
      rename_i t7 H7 nt7 e7 ht7
      refine v_inTS (ss := [Str.ofString "start", Str.ofString "bracket", Str.ofString "space"]) (by got_up) ?_
      reads_via
      refine br_yes (by first | decide | simp) ?_
      reads_via
      try rw [show (⟨#[c0]⟩ : Str) = S [c0] from rfl]
      rw [show Str.ofString "(" = S [40] from rfl, S_eq, dec_congr (q := c0 = 40) (by simp)]
      refine br_d (fun c5 => ?_) (fun c5 => ?_)
      · reads_via
        refine br_d (fun c6 => ?_) (fun c6 => ?_)
        · subst c5
          reads_via
          rename_i p1 H21 np1 e21 hp1
          refine v_append (by got_up) (by have := hinv.dep; dsimp only at this; simp; omega) fun H22 b22 h22 => ?_
          reads_via
          exact next ⟨[], cur :: out, tok, .bracket⟩ _ _ _ H22 (by unfold GN.step; rw [if_neg (by simp), if_neg (by simp), if_neg (by simp), if_pos ⟨rfl, rfl, by show out.length + 1 ≤ 100; omega⟩]) (hpush p1 H21 H22 (e5.free (e7.free (np1))) ((e5.trans e7).trans e21) hp1 b22 h22)
        · end_str
          rename_i t8 H8 nt8 e8 ht8
          refine v_inTS (ss := [Str.ofString "start", Str.ofString "bracket", Str.ofString "space"]) (by got_up) ?_
          reads_via
          refine br_yes (by first | decide | simp) ?_
          reads_via
          refine v_inS ?_
          rw [mem_firsts]
          reads_via
          refine br_b (fun c7 => ?_) (fun c7 => ?_)
          · reads_via
            exact next ⟨cur, out, [c0], .token⟩ _ _ _ _ (step_first rfl c7) (hR.grow ((e5.trans e7).trans e8))
          · reads_via
            refine v_raise fun d H29 nd e29 h29 => ?_
            exact kE1 i _ c0 hrun hc (by unfold GN.step; rw [if_neg (by simp), if_neg (by simp), if_neg (by simp), if_neg (fun z => c6 (by have : out.length + 1 ≤ 100 := z.2.2; omega)), if_neg (by simp [c7])]) d H29 ((((eH.trans e5).trans e7).trans e8).trans e29) h29
      · reads_via
        rename_i t8 H8 nt8 e8 ht8
        refine v_inTS (ss := [Str.ofString "start", Str.ofString "bracket", Str.ofString "space"]) (by got_up) ?_
        reads_via
        refine br_yes (by first | decide | simp) ?_
        reads_via
        refine v_inS ?_
        rw [mem_firsts]
        reads_via
        refine br_b (fun c7 => ?_) (fun c7 => ?_)
        · reads_via
          exact next ⟨cur, out, [c0], .token⟩ _ _ _ _ (step_first rfl c7) (hR.grow ((e5.trans e7).trans e8))
        · reads_via
          refine v_raise fun d H29 nd e29 h29 => ?_
          exact kE1 i _ c0 hrun hc (by unfold GN.step; rw [if_neg (by simp), if_neg (by simp), if_neg (by simp), if_neg (by simp [c5]), if_neg (by simp [c7])]) d H29 ((((eH.trans e5).trans e7).trans e8).trans e29) h29
    | bracket =>
      dsimp only [laS]
      end_str
      rw [hin]
      rename_i t5 H5 nt5 e5 ht5
      refine v_inTS (ss := [Str.ofString "token", Str.ofString "item"]) (by got_up) ?_
      reads_via
      refine br_no (by first | decide | simp) ?_
      reads_via
      try rw [show (⟨#[c0]⟩ : Str) = S [c0] from rfl]
      rw [show Str.ofString ")" = S [41] from rfl, S_eq, dec_congr (q := c0 = 41) (by simp)]
      refine br_d (fun c4 => ?_) (fun c4 => ?_)
      · subst c4
        obtain ⟨ro, out', rfl⟩ : ∃ a b, out = a :: b := by
          cases out with
          | nil => exact absurd rfl (hinv.br rfl)
          | cons a b => exact ⟨a, b, rfl⟩
        reads_via
        refine ⟨rfl, q, H, cur, ro, out', rfl, hR.grow e5, by have := hrw ro (by simp); omega, fun H28 hR28 => ?_⟩
        reads_via
        exact next ⟨ro ++ [.tup (cur)], out', tok, .item⟩ _ _ _ H28 (by unfold GN.step; rw [if_neg (by simp), if_neg (by simp), if_pos ⟨rfl, rfl⟩]; rfl) hR28
      · end_str
        rename_i t7 H7 nt7 e7 ht7
        refine v_inTS (ss := [Str.ofString "start", Str.ofString "bracket", Str.ofString "space"]) (by got_up) ?_
        reads_via
        refine br_yes (by first | decide | simp) ?_
        reads_via
        try rw [show (⟨#[c0]⟩ : Str) = S [c0] from rfl]
        rw [show Str.ofString "(" = S [40] from rfl, S_eq, dec_congr (q := c0 = 40) (by simp)]
        refine br_d (fun c5 => ?_) (fun c5 => ?_)
        · reads_via
          refine br_d (fun c6 => ?_) (fun c6 => ?_)
          · subst c5
            reads_via
            rename_i p1 H21 np1 e21 hp1
            refine v_append (by got_up) (by have := hinv.dep; dsimp only at this; simp; omega) fun H22 b22 h22 => ?_
            reads_via
            exact next ⟨[], cur :: out, tok, .bracket⟩ _ _ _ H22 (by unfold GN.step; rw [if_neg (by simp), if_neg (by simp), if_neg (by simp), if_pos ⟨rfl, rfl, by show out.length + 1 ≤ 100; omega⟩]) (hpush p1 H21 H22 (e5.free (e7.free (np1))) ((e5.trans e7).trans e21) hp1 b22 h22)
          · end_str
            rename_i t8 H8 nt8 e8 ht8
            refine v_inTS (ss := [Str.ofString "start", Str.ofString "bracket", Str.ofString "space"]) (by got_up) ?_
            reads_via
            refine br_yes (by first | decide | simp) ?_
            reads_via
            refine v_inS ?_
            rw [mem_firsts]
            reads_via
            refine br_b (fun c7 => ?_) (fun c7 => ?_)
            · reads_via
              exact next ⟨cur, out, [c0], .token⟩ _ _ _ _ (step_first rfl c7) (hR.grow ((e5.trans e7).trans e8))
            · reads_via
              refine v_raise fun d H29 nd e29 h29 => ?_
              exact kE1 i _ c0 hrun hc (by unfold GN.step; rw [if_neg (by simp), if_neg (by simp), if_neg (by simp [c4]), if_neg (fun z => c6 (by have : out.length + 1 ≤ 100 := z.2.2; omega)), if_neg (by simp [c7])]) d H29 ((((eH.trans e5).trans e7).trans e8).trans e29) h29
        · reads_via
          rename_i t8 H8 nt8 e8 ht8
          refine v_inTS (ss := [Str.ofString "start", Str.ofString "bracket", Str.ofString "space"]) (by got_up) ?_
          reads_via
          refine br_yes (by first | decide | simp) ?_
          reads_via
          refine v_inS ?_
          rw [mem_firsts]
          reads_via
          refine br_b (fun c7 => ?_) (fun c7 => ?_)
          · reads_via
            exact next ⟨cur, out, [c0], .token⟩ _ _ _ _ (step_first rfl c7) (hR.grow ((e5.trans e7).trans e8))
          · reads_via
            refine v_raise fun d H29 nd e29 h29 => ?_
            exact kE1 i _ c0 hrun hc (by unfold GN.step; rw [if_neg (by simp), if_neg (by simp), if_neg (by simp [c4]), if_neg (by simp [c5]), if_neg (by simp [c7])]) d H29 ((((eH.trans e5).trans e7).trans e8).trans e29) h29
  · rintro σ H3 ⟨⟨cur, out, tok, last⟩, v4, v5, v6, hrun, hinv, hR, rfl⟩
    rw [show (S l).cps.size = l.length by simp [S], List.take_length] at hrun
    obtain ⟨r0, xs, us, hq, hr0, hnu, hxl, happ, _⟩ := rows_last hR
    have hul := hnu.len
    have hcl := hinv.cur
    rw [show (S l).cps.size = l.length by simp [S]] at hcl
    dsimp only at hnu hxl happ hul hcl
    o_reads
    refine run_cut (fun σ' H' => RowsAt H H' q (flush ⟨cur, out, tok, last⟩).cur out ∧ σ' = [some (.str (S l)), some (.ref q), some (.str (S tok)), some (.str (laS last)), v4, v5, v6]) (fun nx' hn => ?_) ?_
    · cases last with
      | token =>
        dsimp only [laS] at hn ⊢
        reads_via
        refine v_ixLast (by got_up) ?_
        reads_via
        refine ⟨rfl, tok, rfl, hinv.tok rfl, fun vt hvt => ?_⟩
        reads_via
        refine v_append hr0 (by omega) fun H6 b6 h6 => ?_
        reads_via
        exact hn _ _ ⟨happ _ _ H6 hvt b6 h6, rfl⟩
      | start => dsimp only [laS] at hn ⊢; end_str; exact hn _ _ ⟨hR, rfl⟩
      | item => dsimp only [laS] at hn ⊢; end_str; exact hn _ _ ⟨hR, rfl⟩
      | space => dsimp only [laS] at hn ⊢; end_str; exact hn _ _ ⟨hR, rfl⟩
      | bracket => dsimp only [laS] at hn ⊢; end_str; exact hn _ _ ⟨hR, rfl⟩
    clear hq hr0 hnu hxl happ hul hcl
    rintro σ' H4 ⟨hR4, rfl⟩
    obtain ⟨r0, xs, us, hq, hr0, hnu, hxl, _, _⟩ := rows_last hR4
    have eH := hR4.ext
    have hxl1 : (xs ++ [V.ref r0]).length = out.length + 1 := by rw [List.length_append, List.length_singleton, hxl]
    have bad : (out ≠ [] ∨ (flush ⟨cur, out, tok, last⟩).cur = []) → ∀ d H', Ext H H' → H' d = some (.xd (subj (.int (l.length : Nat)))) → E (.ref c.BadNote) (some d) H' := fun h => kE2 _ hrun h
    reads_via
    refine br_d (fun c1 => ?_) (fun c1 => ?_)
    · reads_via
      refine v_lenS (by rw [S_len, sizeLine_eq]; omega) ?_
      reads_via
      refine v_raise fun d H29 nd e29 h29 => ?_
      rw [S_len] at h29
      exact bad (.inl (fun z => by rw [z] at hxl1; simp at hxl1; rw [hxl1] at c1; simp at c1)) d H29 (eH.trans e29) h29
    · have ho : out = [] := List.eq_nil_of_length_eq_zero (by omega)
      have hx0 : xs = [] := List.eq_nil_of_length_eq_zero (by rw [hxl, ho]; rfl)
      subst hx0
      rw [List.nil_append] at hq
      reads_via
      refine r_truL (by got_up) ?_
      reads_via
      cases us with
      | nil =>
        have hc0 : (flush ⟨cur, out, tok, last⟩).cur = [] := by
          have := hnu.len
          exact List.eq_nil_of_length_eq_zero this.symm
        rw [List.isEmpty_nil]
        reads_via
        refine v_lenS (by rw [S_len, sizeLine_eq]; omega) ?_
        reads_via
        refine v_raise fun d H29 nd e29 h29 => ?_
        rw [S_len] at h29
        exact bad (.inr hc0) d H29 (eH.trans e29) h29
      | cons u us =>
        obtain ⟨n, hn0, hnv⟩ := hnu.at (i := 0) (v := u) rfl
        obtain ⟨r, hr⟩ : ∃ r, (flush ⟨cur, out, tok, last⟩).cur = n :: r := by
          cases hcc : (flush ⟨cur, out, tok, last⟩).cur with
          | nil => rw [hcc] at hn0; cases hn0
          | cons a b => rw [hcc] at hn0; obtain rfl := Option.some.inj hn0; exact ⟨b, rfl⟩
        rw [List.isEmpty_cons]
        reads_via
        exact kQ _ n r hrun ho hr u H4 eH hnv
set_option maxHeartbeats 1000000 in
theorem ok__law_word {P : Program} {w : World} {K : PySem.W.Frag} {mg : Str → Option Value} {base : Heap} {c : Ad} {f : Addr} {fd : FuncData} (F : Fun K "_law_word" "_law_word" s__law_word f fd) (T : Txt K mg c) (F__law_draw : Fn P w K mg base "_law_draw" 1 ["_law_pool_here", "_law_many"] [] (sp__law_draw c)) :
    FnOk P w K mg base (L2N.CX P w) 2 f fd ["_law_pool_here"] (sp__law_word c) := by
  refine GG.Fun.okN F sc__law_word (fun vs H Q E h => h.1) (fun cdv ar ou sh H vs Q E hr h => ?_)
  obtain ⟨_, p, rfl, hp, k⟩ := h
  have tk := L2N.takes_of (X := cxOf (L2N.CX P w) P w K mg base ["_law_pool_here", "_law_letters", "_law_size", "_law_word_here", "_law_k"] "_law_word" (defScope s__law_word) f cdv ar ou sh H E) rfl rfl rfl rfl
  refine ⟨_, (pss_cons (ps_asg pe_str (pg_name (i := 1) sc__law_word.nd rfl (Or.inl rfl)))
      (pss_cons (ps_asg (pe_fn F__law_draw (hr.mono (by decide)) (ps_of tk) (pa_cons (pv 0) (pa_cons pe_int pa_nil))) (pg_name (i := 2) sc__law_word.nd rfl (Or.inl rfl)))
      (pss_cons (ps_if (pt_cmpR (u_eq K hr.units) (pe_fn F__law_draw (hr.mono (by decide)) (ps_of tk) (pa_cons (pv 0) (pa_cons pe_int pa_nil))) pe_int (nomark _))
      (pss_one (ps_asg (pe_op u_sub pe_int (pe_fn F__law_draw (hr.mono (by decide)) (ps_of tk) (pa_cons (pv 0) (pa_cons pe_int pa_nil)))) (pg_name (i := 2) sc__law_word.nd rfl (Or.inl rfl))))
      pss_nil)
      (pss_cons (ps_asg (pe_ix (u_ix K) (pv 1) (pe_fn F__law_draw (hr.mono (by decide)) (ps_of tk) (pa_cons (pv 0) (pa_cons pe_int pa_nil))) (fun _ _ => rfl)) (pg_name (i := 3) sc__law_word.nd rfl (Or.inl rfl)))
      (pss_cons (ps_for (passes_of rfl) rfl (pi_range1 (by rfl) T.b_range (pa_cons (pv 2) pa_nil)) (pg_name (i := 4) sc__law_word.nd rfl (Or.inl rfl))
      (pss_one (ps_asg (pe_op (u_add K) (pv 3) (pe_ix (u_ix K) (pv 1) (pe_fn F__law_draw (hr.mono (by decide)) (ps_of tk) (pa_cons (pv 0) (pa_cons pe_int pa_nil))) (fun _ _ => rfl))) (pg_name (i := 3) sc__law_word.nd rfl (Or.inl rfl)))))
      (pss_one (ps_ret (pv 3)))))))), ?_⟩
  try dsimp only [L2H.cxH, cxOf, Cx.suite, Cx.tr, List.map_cons, List.map_nil]
  refine run_start (σ := [some (.ref p), none, none, none, none]) rfl ?_
  clear tk
  rw [let_S]
  reads_via
  refine call_draw hp (by decide) (by decide) fun r1 H1 r10 r11 b1 p1 => ?_
  o_reads
  refine run_cut (fun σ' H' => ∃ n : Nat, n ≤ 23 ∧ σ' = [some (.ref p), some (.str (S LET)), some (.int (n : Int)), none, none] ∧ But p H H' ∧ Pool H' p) (fun nx' hn => ?_) ?_
  · reads_via
    refine call_draw p1 (by decide) (by decide) fun r2 H2 r20 r21 b2 p2 => ?_
    reads_via
    refine br_d (fun c1 => ?_) (fun c1 => ?_)
    · reads_via
      refine call_draw p2 (by decide) (by decide) fun r3 H3 r30 r31 b3 p3 => ?_
      reads_via
      exact hn _ _ ⟨(23 - r3).toNat, by omega, by rw [show (((23 - r3).toNat : Nat) : Int) = 23 - r3 by omega], (b1.trans b2).trans b3, p3⟩
    · reads_via
      exact hn _ _ ⟨r1.toNat, by omega, by rw [show ((r1.toNat : Nat) : Int) = r1 by omega], b1.trans b2, p2⟩
  rintro σ' H2 ⟨n, hn, rfl, b2, p2⟩
  reads_via
  refine call_draw p2 (by decide) (by decide) fun r4 H4 r40 r41 b4 p4 => ?_
  reads_via
  obtain ⟨m4, rfl⟩ : ∃ n : Nat, r4 = (n : Int) := ⟨r4.toNat, by omega⟩
  obtain ⟨c4, hbc4, hwc4⟩ := let_at26 m4 (by omega)
  refine v_ixS (by rw [S_len, sizeLine_eq]; decide) hbc4 ?_

  reads_via
  refine r_rng1 (by omega) (by omega) ?_
  rw [Int.toNat_natCast]
  refine f_range0 (fun i σ H' => ∃ cs v4, σ = [some (.ref p), some (.str (S LET)), some (.int (n : Int)), some (.str (S (c4 :: cs))), v4] ∧ cs.length = i ∧ (∀ d ∈ cs, wordc d = true) ∧ But p H H' ∧ Pool H' p) ⟨[], none, rfl, rfl, fun d hd => (nomatch hd), b2.trans b4, p4⟩ ?_ ?_
  · rintro i σ H5 hi ⟨cs, v4, rfl, hcl, hcs, b5, p5⟩
    reads_via
    refine call_draw p5 (by decide) (by decide) fun r6 H6 r60 r61 b6 p6 => ?_
    reads_via
    obtain ⟨m6, rfl⟩ : ∃ n : Nat, r6 = (n : Int) := ⟨r6.toNat, by omega⟩
    obtain ⟨c6, hbc6, hwc6⟩ := let_at m6 (by omega)
    refine v_ixS (by rw [S_len, sizeLine_eq]; decide) hbc6 ?_

    reads_via
    refine v_addS (by rw [S_len]; show _ + 1 ≤ 1000000; simp; omega) ?_
    rw [show (⟨#[c6]⟩ : Str) = S [c6] from rfl, S_app]
    reads_via
    refine ⟨cs ++ [c6], _, rfl, by simp [hcl], fun d hd => ?_, b5.trans b6, p6⟩
    rcases List.mem_append.mp hd with h | h
    · exact hcs d h
    · rw [List.mem_singleton.mp h]; exact hwc6
  · rintro σ H5 ⟨cs, v4, rfl, hcl, hcs, b5, p5⟩
    reads_via
    exact k _ H5 ⟨c4, cs, rfl, hwc4, hcs, by simp; omega⟩ b5 p5
set_option maxHeartbeats 1000000 in
theorem ok__law_integer {P : Program} {w : World} {K : PySem.W.Frag} {mg : Str → Option Value} {base : Heap} {c : Ad} {f : Addr} {fd : FuncData} (F : Fun K "_law_integer" "_law_integer" s__law_integer f fd) (T : Txt K mg c) (F__law_draw : Fn P w K mg base "_law_draw" 1 ["_law_pool_here", "_law_many"] [] (sp__law_draw c)) :
    FnOk P w K mg base (L2N.CX P w) 2 f fd ["_law_pool_here"] (sp__law_integer c) := by
  refine GG.Fun.okN F sc__law_integer (fun vs H Q E h => h.1) (fun cdv ar ou sh H vs Q E hr h => ?_)
  obtain ⟨_, p, rfl, hp, k⟩ := h
  have tk := L2N.takes_of (X := cxOf (L2N.CX P w) P w K mg base ["_law_pool_here", "_law_way", "_law_number", "_law_count", "_law_k"] "_law_integer" (defScope s__law_integer) f cdv ar ou sh H E) rfl rfl rfl rfl
  refine ⟨_, (pss_cons (ps_asg (pe_fn F__law_draw (hr.mono (by decide)) (ps_of tk) (pa_cons (pv 0) (pa_cons pe_int pa_nil))) (pg_name (i := 1) sc__law_integer.nd rfl (Or.inl rfl)))
      (pss_cons (ps_asg (pe_fn F__law_draw (hr.mono (by decide)) (ps_of tk) (pa_cons (pv 0) (pa_cons pe_int pa_nil))) (pg_name (i := 2) sc__law_integer.nd rfl (Or.inl rfl)))
      (pss_cons (ps_asg pe_int (pg_name (i := 3) sc__law_integer.nd rfl (Or.inl rfl)))
      (pss_cons (ps_if (pt_cmpR (u_eq K hr.units) (pv 1) pe_int (nomark _))
      (pss_one (ps_asg (pe_op (u_add K) pe_int (pe_fn F__law_draw (hr.mono (by decide)) (ps_of tk) (pa_cons (pv 0) (pa_cons pe_int pa_nil)))) (pg_name (i := 3) sc__law_integer.nd rfl (Or.inl rfl))))
      pss_nil)
      (pss_cons (ps_if (pt_cmpR (u_eq K hr.units) (pv 1) pe_int (nomark _))
      (pss_one (ps_asg (pe_op (u_add K) pe_int (pe_fn F__law_draw (hr.mono (by decide)) (ps_of tk) (pa_cons (pv 0) (pa_cons pe_int pa_nil)))) (pg_name (i := 3) sc__law_integer.nd rfl (Or.inl rfl))))
      pss_nil)
      (pss_cons (ps_for (passes_of rfl) rfl (pi_range1 (by rfl) T.b_range (pa_cons (pv 3) pa_nil)) (pg_name (i := 4) sc__law_integer.nd rfl (Or.inl rfl))
      (pss_one (ps_asg (pe_op (u_add K) (pe_op u_mul (pv 2) pe_int) (pe_fn F__law_draw (hr.mono (by decide)) (ps_of tk) (pa_cons (pv 0) (pa_cons pe_int pa_nil)))) (pg_name (i := 2) sc__law_integer.nd rfl (Or.inl rfl)))))
      (pss_cons (ps_if (pt_cmpR (u_eq K hr.units) (pv 1) pe_int (nomark _))
      (pss_one (ps_asg (pe_callTy c_int2 (by rfl) T.b_int (by decide +kernel) (pa_cons (pe_op u_mulX pe_str (pe_op (u_add K) pe_int (pe_fn F__law_draw (hr.mono (by decide)) (ps_of tk) (pa_cons (pv 0) (pa_cons pe_int pa_nil))))) pa_nil)) (pg_name (i := 2) sc__law_integer.nd rfl (Or.inl rfl))))
      pss_nil)
      (pss_one (ps_ret (pe_op u_mul (pv 2) (pe_op u_sub pe_int (pe_op u_mul pe_int (pe_fn F__law_draw (hr.mono (by decide)) (ps_of tk) (pa_cons (pv 0) (pa_cons pe_int pa_nil))))))))))))))), ?_⟩
  try dsimp only [L2H.cxH, cxOf, Cx.suite, Cx.tr, List.map_cons, List.map_nil]
  refine run_start (σ := [some (.ref p), none, none, none, none]) rfl ?_
  clear tk
  reads_via
  refine call_draw hp (by decide) (by decide) fun w1 H1 r10 r11 b1 p1 => ?_
  reads_via
  refine call_draw p1 (by decide) (by decide) fun n2 H2 r20 r21 b2 p2 => ?_
  o_reads
  refine run_cut (fun σ' H' => ∃ n : Nat, n ≤ 66 ∧ σ' = [some (.ref p), some (.int w1), some (.int n2), some (.int (n : Int)), none] ∧ But p H H' ∧ Pool H' p) (fun nx' hn => ?_) ?_
  · reads_via
    refine br_d (fun c1 => ?_) (fun c1 => ?_)
    · reads_via
      refine call_draw p2 (by decide) (by decide) fun r3 H3 r30 r31 b3 p3 => ?_
      reads_via
      exact hn _ _ ⟨(1 + r3).toNat, by omega, by rw [show (((1 + r3).toNat : Nat) : Int) = 1 + r3 by omega], (b1.trans b2).trans b3, p3⟩
    · reads_via
      exact hn _ _ ⟨0, by omega, rfl, b1.trans b2, p2⟩
  rintro σ' H3 ⟨n0, hn0, rfl, b3, p3⟩
  o_reads
  refine run_cut (fun σ' H' => ∃ n : Nat, n ≤ 66 ∧ σ' = [some (.ref p), some (.int w1), some (.int n2), some (.int (n : Int)), none] ∧ But p H H' ∧ Pool H' p) (fun nx' hn => ?_) ?_
  · reads_via
    refine br_d (fun c1 => ?_) (fun c1 => ?_)
    · reads_via
      refine call_draw p3 (by decide) (by decide) fun r4 H4 r40 r41 b4 p4 => ?_
      reads_via
      exact hn _ _ ⟨(1 + r4).toNat, by omega, by rw [show (((1 + r4).toNat : Nat) : Int) = 1 + r4 by omega], b3.trans b4, p4⟩
    · reads_via
      exact hn _ _ ⟨n0, hn0, rfl, b3, p3⟩
  rintro σ' H4 ⟨n, hn, rfl, b4, p4⟩
  reads_via
  refine r_rng1 (by omega) (by omega) ?_
  rw [Int.toNat_natCast]
  refine f_range0 (fun i σ H' => ∃ (N : Int) (v4 : Option V), σ = [some (.ref p), some (.int w1), some (.int N), some (.int (n : Int)), v4] ∧ 0 ≤ N ∧ N < 12 * 1000 ^ i ∧ But p H H' ∧ Pool H' p) ⟨n2, none, rfl, r20, by omega, b4, p4⟩ ?_ ?_
  · rintro i σ H5 hi ⟨N, v4, rfl, hN0, hN1, b5, p5⟩
    reads_via
    refine call_draw p5 (by decide) (by decide) fun r6 H6 r60 r61 b6 p6 => ?_
    reads_via
    exact ⟨_, _, rfl, by omega, by rw [Int.pow_succ]; omega, b5.trans b6, p6⟩
  · rintro σ H5 ⟨N, v4, rfl, hN0, hN1, b5, p5⟩
    have hNb : N.natAbs < 10 ^ 200 := by
      have h1 : (12 : Int) * 1000 ^ n ≤ 12 * 1000 ^ 66 := by
        have := Nat.pow_le_pow_right (show 0 < 1000 by decide) hn
        have h2 : (1000 : Int) ^ n ≤ 1000 ^ 66 := by exact_mod_cast this
        omega
      have h3 : (12 : Int) * 1000 ^ 66 < 10 ^ 200 := by decide +kernel
      have h4 : N < 10 ^ 200 := by omega
      have h5 : (N.natAbs : Int) = N := Int.natAbs_of_nonneg hN0
      rw [← h5] at h4
      exact_mod_cast h4
    o_reads
    refine run_cut (fun σ' H' => ∃ (N : Int) (v4 : Option V), N.natAbs < 10 ^ 200 ∧ σ' = [some (.ref p), some (.int w1), some (.int N), some (.int (n : Int)), v4] ∧ But p H H' ∧ Pool H' p) (fun nx' hn => ?_) ?_
    · reads_via
      refine br_d (fun c1 => ?_) (fun c1 => ?_)
      · reads_via
        refine call_draw p5 (by decide) (by decide) fun r6 H6 r60 r61 b6 p6 => ?_
        reads_via
        obtain ⟨m, hm, hm1, hm2⟩ : ∃ m : Nat, 1 + r6 = (m : Int) ∧ 1 ≤ m ∧ m ≤ 200 := ⟨(1 + r6).toNat, by omega, by omega, by omega⟩
        rw [hm]
        refine .inr ⟨[57], m, rfl, rfl, hm1, by omega, by decide, by decide, ?_⟩
        obtain ⟨z, hz1, hz2, hz3⟩ := nines m hm1 hm2
        reads_via
        refine v_intS hz1 hz3 ?_
        reads_via
        exact hn _ _ ⟨_, _, by rw [Int.natAbs_natCast]; exact hz2, rfl, b5.trans b6, p6⟩
      · reads_via
        exact hn _ _ ⟨N, _, hNb, rfl, b5, p5⟩
    clear hN0 hN1 hNb b5 p5
    rintro σ' H7 ⟨N, v4, hNb, rfl, b7, p7⟩
    reads_via
    refine call_draw p7 (by decide) (by decide) fun r8 H8 r80 r81 b8 p8 => ?_
    reads_via
    have : r8 = 0 ∨ r8 = 1 := by omega
    rcases this with rfl | rfl
    · exact k _ H8 (by simpa using hNb) (b7.trans b8) p8
    · exact k _ H8 (by simpa using hNb) (b7.trans b8) p8
set_option maxHeartbeats 1000000 in
theorem ok__law_same {P : Program} {w : World} {K : PySem.W.Frag} {mg : Str → Option Value} {base : Heap} {c : Ad} {f : Addr} {fd : FuncData} (F : Fun K "_law_same" "_law_same" s__law_same f fd) (T : Txt K mg c) (F__law_whole : Fn P w K mg base "_law_whole" 1 ["_law_value"] [] (sp__law_whole c)) :
    FnOk P w K mg base (L2N.CX P w) 2 f fd ["_law_told", "_law_note_here", "_law_most"] (sp__law_same c) := by
  refine GG.Fun.okN F sc__law_same (fun vs H Q E h => h.1) (fun cdv ar ou sh H vs Q E hr h => ?_)
  obtain ⟨_, v, u, n, m, rfl, hv, hu, hn, hm, k⟩ := h
  have tk := L2N.takes_of (X := cxOf (L2N.CX P w) P w K mg base ["_law_told", "_law_note_here", "_law_most", "_law_left", "_law_k", "_law_one", "_law_other"] "_law_same" (defScope s__law_same) f cdv ar ou sh H E) rfl rfl rfl rfl
  refine ⟨_, (pss_cons (ps_asg (pe_lst (pa_cons (pe_tup (pa_cons (pv 0) (pa_cons (pv 1) pa_nil))) pa_nil)) (pg_name (i := 3) sc__law_same.nd rfl (Or.inl rfl)))
      (pss_cons (ps_for (passes_of rfl) rfl (pi_range1 (by rfl) T.b_range (pa_cons (pv 2) pa_nil)) (pg_name (i := 4) sc__law_same.nd rfl (Or.inl rfl))
      (pss_cons (ps_if (pt_not (pt_tru K (pv 3) (by intro _; rfl)))
      (pss_one (ps_ret pe_bl))
      pss_nil)
      (pss_cons (ps_asg (pe_bm0K K (pe_bm0 PySem.F.plainAttrs_list PySem.F.slot_list_pop PySem.F.type_list_pop m_pop (pv 3))) (pg_tupK K (n := 2) (pg_tup (n := 2) (by rfl) (pgs_cons (pg_name (i := 5) sc__law_same.nd rfl (Or.inl rfl)) (pgs_cons (pg_name (i := 6) sc__law_same.nd rfl (Or.inl rfl)) pgs_nil)))))
      (pss_one (ps_if (pt_tru K (pe_callB (c_isi K) (by rfl) T.b_isinstance (by decide +kernel) (pa_cons (pv 6) (pa_cons (pe_bltn (v := .ty "tuple") rfl T.b_tuple (by decide +kernel) rfl) pa_nil))) (by intro _; rfl))
      (pss_cons (ps_if (PW.pt (pw_or (pt_not (pt_tru K (pe_callB (c_isi K) (by rfl) T.b_isinstance (by decide +kernel) (pa_cons (pv 5) (pa_cons (pe_bltn (v := .ty "tuple") rfl T.b_tuple (by decide +kernel) rfl) pa_nil))) (by intro _; rfl))) (pw_or1 (pt_cmpR (u_ne K hr.units) (pe_callB (c_len K) (by rfl) T.b_len (by decide +kernel) (pa_cons (pv 5) pa_nil)) (pe_callB (c_len K) (by rfl) T.b_len (by decide +kernel) (pa_cons (pv 6) pa_nil)) (nomark _)))))
      (pss_one (ps_ret pe_bl))
      pss_nil)
      (pss_one (ps_expr (pe_bmK K (pe_bm PySem.F.plainAttrs_list PySem.F.slot_list_extend PySem.F.type_list_extend (m_extend K) (pv 3) (pa_cons (pe_zipLK K (pe_zipL rfl (by rfl) T.b_list (by rfl) T.b_zip (pa_cons (pv 5) (pa_cons (pv 6) pa_nil)))) pa_nil))))))
      (pss_one (ps_if (pt_cmpR u_isN (pv 6) pe_non (nomark _))
      (pss_one (ps_if (pt_cmpR u_notN (pv 5) pe_non (nomark _))
      (pss_one (ps_ret pe_bl))
      pss_nil))
      (pss_one (ps_if (pt_tru K (pe_callB (c_isi K) (by rfl) T.b_isinstance (by decide +kernel) (pa_cons (pv 6) (pa_cons (pe_bltn (v := .ty "str") rfl T.b_str (by decide +kernel) rfl) pa_nil))) (by intro _; rfl))
      (pss_one (ps_if (PW.pt (pw_or (pt_not (pt_tru K (pe_callB (c_isi K) (by rfl) T.b_isinstance (by decide +kernel) (pa_cons (pv 5) (pa_cons (pe_bltn (v := .ty "str") rfl T.b_str (by decide +kernel) rfl) pa_nil))) (by intro _; rfl))) (pw_or1 (pt_cmpR (u_ne K hr.units) (pv 5) (pv 6) (nomark _)))))
      (pss_one (ps_ret pe_bl))
      pss_nil))
      (pss_one (ps_if (PW.pt (pw_or (pt_not (pt_tru K (pe_fn F__law_whole (hr.mono (by decide)) (ps_of tk) (pa_cons (pv 5) pa_nil)) (by intro _; rfl))) (pw_or1 (pt_cmpR (u_ne K hr.units) (pv 5) (pv 6) (nomark _)))))
      (pss_one (ps_ret pe_bl))
      pss_nil)))))))))))
      (pss_one (ps_ret (pe_not (pv 3)))))), ?_⟩
  try dsimp only [L2H.cxH, cxOf, Cx.suite, Cx.tr, List.map_cons, List.map_nil]
  refine run_start (σ := [some (v), some (u), some (.int (m : Int)), none, none, none, none]) rfl ?_
  clear tk
  reads_via
  rename_i t0 H1 nt0 e1 ht0 q H2 nq e2 hq0
  refine r_rng1 (by omega) (by omega) ?_
  rw [Int.toNat_natCast]
  have e02 := e1.trans e2
  refine f_range0 (fun i σ H' => ∃ (xs : List Nt) (ts : List Addr) (v4 v5 v6 : Option V), σ = [some v, some u, some (.int (m : Int)), some (.ref q), v4, v5, v6] ∧ Ext H H' ∧ H' q = some (.lst (ts.map V.ref)) ∧ Paired (Pair2 H') ts xs ∧ nodesL xs + i = nodes n) ⟨[n], [t0], none, none, none, rfl, e02, hq0, .cons ⟨v, u, e2.look ht0, NtV.mono e02.tups n v hv, NtV.mono e02.tups n u hu⟩ .nil, by show nodes n + 0 + 0 = _; omega⟩ ?_ ?_
  · rintro i σ H3 hi ⟨xs, ts, v4, v5, v6, rfl, e3, hq, hp, hnd⟩
    have hqH : H q = none := e1.free nq
    reads_via
    refine r_truL (by got_up) ?_
    reads_via
    cases hts : ts with
    | nil =>
      rw [List.map_nil, List.isEmpty_nil]
      reads_via
      exact k H3 e3
    | cons a as =>
      rw [List.map_cons, List.isEmpty_cons]
      obtain ⟨ts', t, xs', x, rfl, rfl, hp', hx⟩ := paired_last hp (by rw [hts]; simp)
      clear hts
      rw [List.map_append, List.map_singleton] at hq
      rw [nodesL_app] at hnd
      have hts' : ts'.length ≤ 200000 := by
        have h1 := paired_nodes hp'
        omega
      reads_via
      refine v_pop hq fun H4 b4 hq4 => ?_
      have tt4 := b4.tups hq
      obtain ⟨v', w', ht, hv', hw'⟩ := hx.mono tt4
      have e4 : Ext H H4 := b4.ext e3 hqH
      have hp4 := paired_mem hp' fun a b _ r => r.mono tt4
      reads_via
      have last : nodesL [x] = nodes x := by show nodes x + 0 = _; omega
      have done : ∀ (H5 : Hp) v4 v5 v6, H5 = H4 → nodes x = 1 → ∃ (xs : List Nt) (ts : List Addr) (w4 w5 w6 : Option V), ([some v, some u, some (.int (m : Int)), some (.ref q), v4, v5, v6] : L2.St) = [some v, some u, some (.int (m : Int)), some (.ref q), w4, w5, w6] ∧ Ext H H5 ∧ H5 q = some (.lst (ts.map V.ref)) ∧ Paired (Pair2 H5) ts xs ∧ nodesL xs + (i + 1) = nodes n :=
        fun H5 v4 v5 v6 e hx1 => ⟨xs', ts', v4, v5, v6, rfl, by rw [e]; exact e4, by rw [e]; exact hq4, by rw [e]; exact hp4, by omega⟩
      cases x with
      | non =>
        cases (show v' = .non from hv')
        cases (show w' = .non from hw')
        reads_via
        exact done _ _ _ _ rfl rfl
      | wd l =>
        cases (show v' = .str (S l) from hv')
        cases (show w' = .str (S l) from hw')
        reads_via
        exact done _ _ _ _ rfl rfl
      | int z =>
        cases (show v' = .int z from hv')
        cases (show w' = .int z from hw')
        reads_via
        refine ⟨rfl, z, rfl, ?_⟩
        reads_via
        exact done _ _ _ _ rfl rfl
      | tup ys =>
        obtain ⟨a1, vs1, rfl, ha1, hn1⟩ := hv'
        obtain ⟨a2, vs2, rfl, ha2, hn2⟩ := hw'
        have hl1 := hn1.len
        have hl2 := hn2.len
        reads_via
        rw [hl1, hl2]
        have hyl : ys.length ≤ 100001 := by
          have h1 := len_nodes ys
          have h2 : nodes (.tup ys) = nodesL ys + 1 := rfl
          omega
        reads_via
        refine v_zipL (by got_up) (by got_up) (by omega) (by have := sizeLine_eq; omega) fun D ts2 H5 nD e5 hD hp2 => ?_
        reads_via
        refine v_extend (xs := ts'.map V.ref) (by got_up) (by got_up) (by have := hp2.length; simp at this ⊢; omega) fun H6 b6 h6 => ?_
        reads_via
        have hq5 := e5.look hq4
        have tt6 : ∀ a vs, H5 a = some (.tup vs) → H6 a = some (.tup vs) := b6.tups hq5
        have tt46 : ∀ a vs, H4 a = some (.tup vs) → H6 a = some (.tup vs) := fun a vs h => tt6 a vs (e5.tups a vs h)
        refine ⟨xs' ++ ys, ts' ++ ts2, _, _, _, rfl, b6.ext (e4.trans e5) hqH, by rw [h6, List.map_append], paired_app (paired_mem hp4 fun a b _ r => r.mono tt46) (pairs_zip (NtVs.mono tt46 ys vs1 hn1) (NtVs.mono tt46 ys vs2 hn2) (paired_mem hp2 fun t p _ r => tt6 t _ r)), ?_⟩
        have h2 : nodes (.tup ys) = nodesL ys + 1 := rfl
        rw [nodesL_app]
        omega
  · rintro σ H3 ⟨xs, ts, v4, v5, v6, rfl, e3, hq, hp, hnd⟩
    exact absurd hnd (by omega)
set_option maxHeartbeats 1000000 in
theorem ok__law_wrong {P : Program} {w : World} {K : PySem.W.Frag} {mg : Str → Option Value} {base : Heap} {c : Ad} {f : Addr} {fd : FuncData} (F : Fun K "_law_wrong" "_law_wrong" s__law_wrong f fd) (T : Txt K mg c) (F__law_next : Fn P w K mg base "_law_next" 1 ["_law_mode", "_law_size", "_law_depth", "_law_char_here"] [] (sp__law_next c)) :
    FnOk P w K mg base (L2N.CX P w) 2 f fd ["_law_text"] (sp__law_wrong c) := by
  refine GG.Fun.okN F sc__law_wrong (fun vs H Q E h => h.1) (fun cdv ar ou sh H vs Q E hr h => ?_)
  obtain ⟨_, l, rfl, hl, k1, k2, k3⟩ := h
  have tk := L2N.takes_of (X := cxOf (L2N.CX P w) P w K mg base ["_law_text", "_law_mode", "_law_size", "_law_depth", "_law_at", "_law_later"] "_law_wrong" (defScope s__law_wrong) f cdv ar ou sh H E) rfl rfl rfl rfl
  refine ⟨_, (pss_cons (ps_asg pe_int (pg_name (i := 1) sc__law_wrong.nd rfl (Or.inl rfl)))
      (pss_cons (ps_asg pe_int (pg_name (i := 2) sc__law_wrong.nd rfl (Or.inl rfl)))
      (pss_cons (ps_asg pe_int (pg_name (i := 3) sc__law_wrong.nd rfl (Or.inl rfl)))
      (pss_cons (ps_for (passes_of rfl) rfl (pi_range1 (by rfl) T.b_range (pa_cons (pe_callB (c_len K) (by rfl) T.b_len (by decide +kernel) (pa_cons (pv 0) pa_nil)) pa_nil)) (pg_name (i := 4) sc__law_wrong.nd rfl (Or.inl rfl))
      (pss_cons (ps_asg (pe_fn F__law_next (hr.mono (by decide)) (ps_of tk) (pa_cons (pv 1) (pa_cons (pv 2) (pa_cons (pv 3) (pa_cons (pe_ix (u_ix K) (pv 0) (pv 4) (fun _ _ => rfl)) pa_nil))))) (pg_name (i := 5) sc__law_wrong.nd rfl (Or.inl rfl)))
      (pss_cons (ps_if (pt_cmpR (u_eq K hr.units) (pv 5) (pe_un un_neg pe_int) (nomark _))
      (pss_one (ps_ret (pv 4)))
      pss_nil)
      (pss_cons (ps_asg (pe_op u_sub (pe_op (u_add K) (pv 3) (pe_callTy c_int2 (by rfl) T.b_int (by decide +kernel) (pa_cons (pe_cmpR (u_eq K hr.units) (pe_ix (u_ix K) (pv 0) (pv 4) (fun _ _ => rfl)) pe_str (nomark _)) pa_nil))) (pe_callTy c_int2 (by rfl) T.b_int (by decide +kernel) (pa_cons (pe_cmpR (u_eq K hr.units) (pe_ix (u_ix K) (pv 0) (pv 4) (fun _ _ => rfl)) pe_str (nomark _)) pa_nil))) (pg_name (i := 3) sc__law_wrong.nd rfl (Or.inl rfl)))
      (pss_cons (ps_asg (pe_op (u_add K) pe_int (pe_op u_mul (pv 2) (pe_callTy c_int2 (by rfl) T.b_int (by decide +kernel) (pa_cons (pe_cmpR (u_eq K hr.units) (pv 5) (pv 1) (nomark _)) pa_nil)))) (pg_name (i := 2) sc__law_wrong.nd rfl (Or.inl rfl)))
      (pss_one (ps_asg (pv 5) (pg_name (i := 1) sc__law_wrong.nd rfl (Or.inl rfl)))))))))
      (pss_cons (ps_if (PW.pt (pw_and (pt_cmpR (u_eq K hr.units) (pv 3) pe_int (nomark _)) (pw_and1 (pt_cmpR u_gt (pv 1) pe_int (nomark _)))))
      (pss_one (ps_ret (pe_un un_neg pe_int)))
      pss_nil)
      (pss_one (ps_ret (pe_callB (c_len K) (by rfl) T.b_len (by decide +kernel) (pa_cons (pv 0) pa_nil))))))))), ?_⟩
  try dsimp only [L2H.cxH, cxOf, Cx.suite, Cx.tr, List.map_cons, List.map_nil]
  refine run_start (σ := [some (.str (S l)), none, none, none, none, none]) rfl ?_
  clear tk
  have hz : (S l).length ≤ sizeLine := by rw [S_len, sizeLine_eq]; omega
  reads_via
  refine v_lenS hz ?_
  rw [S_len]
  reads_via
  refine r_rng1 (by omega) (by omega) ?_
  rw [Int.toNat_natCast]
  refine f_range0 (fun i σ H' => ∃ s m n d v4 v5, GN.run GN.start (l.take i) = some s ∧ GN.Inv i s ∧ Rend s (l.take i) ∧ Sim s m n d ∧ H' = H ∧ σ = [some (.str (S l)), some (.int ((m : Nat) : Int)), some (.int ((n : Nat) : Int)), some (.int ((d : Nat) : Int)), v4, v5]) ⟨GN.start, 0, 0, 0, none, none, rfl, inv_start, rend_start, sim_start, rfl, rfl⟩ ?_ ?_
  · rintro i σ H3 hi ⟨s, m, n, d, v4, v5, hrun, hinv, hrd, hsim, rfl, rfl⟩
    have hb := List.getElem?_eq_getElem hi
    generalize l[i] = b at hb
    obtain ⟨s1, s2⟩ := sim_step (b := b) (i := i) hrd hsim
    reads_via
    refine v_ixS hz hb ?_
    reads_via
    refine ⟨rfl, m, n, d, b, rfl, ?_⟩
    reads_via
    cases hs : GN.step s b with
    | none =>
      rw [s1 hs]
      end_str
      exact k1 i s b hrun hb hs
    | some s' =>
      obtain ⟨m', d', e1, e2, q'⟩ := s2 s' hs
      rw [e1]
      refine br_no (by omega) ?_
      reads_via
      refine v_ixS hz hb ?_
      reads_via
      refine v_ixS hz hb ?_
      reads_via
      have ht : l.take (i + 1) = l.take i ++ [b] := by rw [List.take_add_one, hb]; rfl
      refine ⟨s', m', 1 + (if m' = m then n else 0), d', some (.int (i : Int)), some (.int (m' : Int)), run_take hrun hb hs, inv_step hinv hs, by rw [ht]; exact rend_step hrd hinv hs, q', rfl, ?_⟩
      have t1 : (1 : Int) + ↑n * (if decide ((m' : Int) = (m : Int)) = true then 1 else 0) = ((1 + (if m' = m then n else 0) : Nat) : Int) := by
        by_cases hm : m' = m
        · rw [if_pos (by simp [hm]), if_pos hm]; omega
        · rw [if_neg (by simp; omega), if_neg hm]; omega
      rw [t1, show Str.ofString "(" = S [40] from rfl, show Str.ofString ")" = S [41] from rfl, chr_if, chr_if, ← e2]
  · rintro σ H3 ⟨s, m, n, d, v4, v5, hrun, hinv, hrd, hsim, rfl, rfl⟩
    rw [List.take_length] at hrun hrd
    have he := sim_end hrd hsim
    reads_via
    refine br_d (fun c1 => ?_) (fun c1 => ?_)
    · reads_via
      refine br_d (fun c2 => ?_) (fun c2 => ?_)
      · reads_via
        exact k3 s hrun (he.mp ⟨by omega, by omega⟩)
      · reads_via
        refine v_lenS hz ?_
        rw [S_len]
        reads_via
        exact k2 s hrun (Classical.byContradiction fun z => by have := he.mpr z; omega)
    · reads_via
      refine v_lenS hz ?_
      rw [S_len]
      reads_via
      exact k2 s hrun (Classical.byContradiction fun z => by have := he.mpr z; omega)
set_option maxHeartbeats 1000000 in
theorem ok__law_char {P : Program} {w : World} {K : PySem.W.Frag} {mg : Str → Option Value} {base : Heap} {c : Ad} {f : Addr} {fd : FuncData} (F : Fun K "_law_char" "_law_char" s__law_char f fd) (T : Txt K mg c) (F__law_draw : Fn P w K mg base "_law_draw" 1 ["_law_pool_here", "_law_many"] [] (sp__law_draw c)) :
    FnOk P w K mg base (L2N.CX P w) 2 f fd ["_law_pool_here"] (sp__law_char c) := by
  refine GG.Fun.okN F sc__law_char (fun vs H Q E h => h.1) (fun cdv ar ou sh H vs Q E hr h => ?_)
  obtain ⟨_, p, rfl, hp, k⟩ := h
  have tk := L2N.takes_of (X := cxOf (L2N.CX P w) P w K mg base ["_law_pool_here", "_law_chars"] "_law_char" (defScope s__law_char) f cdv ar ou sh H E) rfl rfl rfl rfl
  refine ⟨_, (pss_cons (ps_if (pt_cmpR (u_eq K hr.units) (pe_fn F__law_draw (hr.mono (by decide)) (ps_of tk) (pa_cons (pv 0) (pa_cons pe_int pa_nil))) pe_int (nomark _))
      (pss_one (ps_ret (pe_ix (u_ix K) pe_str (pe_fn F__law_draw (hr.mono (by decide)) (ps_of tk) (pa_cons (pv 0) (pa_cons pe_int pa_nil))) (fun _ _ => rfl))))
      pss_nil)
      (pss_cons (ps_asg pe_str (pg_name (i := 1) sc__law_char.nd rfl (Or.inl rfl)))
      (pss_cons (ps_asg (pe_op (u_add K) (pv 1) pe_str) (pg_name (i := 1) sc__law_char.nd rfl (Or.inl rfl)))
      (pss_one (ps_ret (pe_ix (u_ix K) (pv 1) (pe_fn F__law_draw (hr.mono (by decide)) (ps_of tk) (pa_cons (pv 0) (pa_cons pe_int pa_nil))) (fun _ _ => rfl))))))), ?_⟩
  try dsimp only [L2H.cxH, cxOf, Cx.suite, Cx.tr, List.map_cons, List.map_nil]
  refine run_start (σ := [some (.ref p), none]) rfl ?_
  clear tk
  reads_via
  refine call_draw hp (by decide) (by decide) fun r1 H1 r10 r11 b1 p1 => ?_
  reads_via
  refine br_d (fun c1 => ?_) (fun c1 => ?_)
  · reads_via
    refine call_draw p1 (by decide) (by decide) fun r2 H2 r20 r21 b2 p2 => ?_
    reads_via
    obtain ⟨n2, rfl⟩ : ∃ n : Nat, r2 = (n : Int) := ⟨r2.toNat, by omega⟩
    refine v_ixZ (by decide +kernel) (by rw [show (Str.ofString "()- 0123az:A").cps.toList.length = 12 from by decide +kernel]; omega) fun b => ?_
    reads_via
    exact k b H2 (b1.trans b2) p2
  · reads_via
    refine v_addS (by decide +kernel) ?_
    reads_via
    refine call_draw p1 (by decide) (by decide) fun r2 H2 r20 r21 b2 p2 => ?_
    reads_via
    obtain ⟨n2, rfl⟩ : ∃ n : Nat, r2 = (n : Int) := ⟨r2.toNat, by omega⟩
    refine v_ixZ (by decide +kernel) (by show n2 < _; exact Nat.lt_of_lt_of_le (show n2 < 95 by omega) (by decide +kernel)) fun b => ?_
    reads_via
    exact k b H2 (b1.trans b2) p2
set_option maxHeartbeats 1000000 in
theorem ok__law_leaf {P : Program} {w : World} {K : PySem.W.Frag} {mg : Str → Option Value} {base : Heap} {c : Ad} {f : Addr} {fd : FuncData} (F : Fun K "_law_leaf" "_law_leaf" s__law_leaf f fd) (T : Txt K mg c) (F__law_integer : Fn P w K mg base "_law_integer" 2 ["_law_pool_here"] [] (sp__law_integer c)) (F__law_word : Fn P w K mg base "_law_word" 2 ["_law_pool_here"] [] (sp__law_word c)) (F__law_draw : Fn P w K mg base "_law_draw" 1 ["_law_pool_here", "_law_many"] [] (sp__law_draw c)) :
    FnOk P w K mg base (L2N.CX P w) 3 f fd ["_law_pool_here"] (sp__law_leaf c) := by
  refine GG.Fun.okN F sc__law_leaf (fun vs H Q E h => h.1) (fun cdv ar ou sh H vs Q E hr h => ?_)
  obtain ⟨_, p, rfl, hp, k⟩ := h
  have tk := L2N.takes_of (X := cxOf (L2N.CX P w) P w K mg base ["_law_pool_here", "_law_kind"] "_law_leaf" (defScope s__law_leaf) f cdv ar ou sh H E) rfl rfl rfl rfl
  refine ⟨_, (pss_cons (ps_asg (pe_fn F__law_draw (hr.mono (by decide)) (ps_of tk) (pa_cons (pv 0) (pa_cons pe_int pa_nil))) (pg_name (i := 1) sc__law_leaf.nd rfl (Or.inl rfl)))
      (pss_cons (ps_if (pt_cmpR (u_eq K hr.units) (pv 1) pe_int (nomark _))
      (pss_one (ps_ret pe_non))
      pss_nil)
      (pss_cons (ps_if (pt_cmpR (u_eq K hr.units) (pv 1) pe_int (nomark _))
      (pss_one (ps_ret (pe_fn F__law_word (hr.mono (by decide)) (ps_of tk) (pa_cons (pv 0) pa_nil))))
      pss_nil)
      (pss_one (ps_ret (pe_fn F__law_integer (hr.mono (by decide)) (ps_of tk) (pa_cons (pv 0) pa_nil))))))), ?_⟩
  try dsimp only [L2H.cxH, cxOf, Cx.suite, Cx.tr, List.map_cons, List.map_nil]
  refine run_start (σ := [some (.ref p), none]) rfl ?_
  clear tk
  reads_via
  refine call_draw hp (by decide) (by decide) fun w1 H1 r10 r11 b1 p1 => ?_
  reads_via
  refine br_d (fun c1 => ?_) (fun c1 => ?_)
  · reads_via
    exact k .non .non H1 rfl trivial rfl (by decide) (.inl ⟨rfl, rfl⟩) b1 p1
  reads_via
  refine br_d (fun c2 => ?_) (fun c2 => ?_)
  · reads_via
    refine ⟨rfl, p, rfl, p1, fun l H2 hw b2 p2 => ?_⟩
    exact k (.wd l) _ H2 rfl hw rfl (by obtain ⟨_, _, rfl, _, _, h⟩ := hw; exact Nat.le_trans h (by decide)) (.inr (.inl ⟨l, rfl, rfl⟩)) (b1.trans b2) p2
  · reads_via
    refine ⟨rfl, p, rfl, p1, fun i H2 hi b2 p2 => ?_⟩
    exact k (.int i) _ H2 rfl hi rfl (itx_len hi) (.inr (.inr ⟨i, rfl, rfl⟩)) (b1.trans b2) p2
set_option maxHeartbeats 1000000 in
theorem ok__law_changed {P : Program} {w : World} {K : PySem.W.Frag} {mg : Str → Option Value} {base : Heap} {c : Ad} {f : Addr} {fd : FuncData} (F : Fun K "_law_changed" "_law_changed" s__law_changed f fd) (T : Txt K mg c) (F__law_draw : Fn P w K mg base "_law_draw" 1 ["_law_pool_here", "_law_many"] [] (sp__law_draw c)) (F__law_char : Fn P w K mg base "_law_char" 2 ["_law_pool_here"] [] (sp__law_char c)) :
    FnOk P w K mg base (L2N.CX P w) 3 f fd ["_law_pool_here", "_law_text"] (sp__law_changed c) := by
  refine GG.Fun.okN F sc__law_changed (fun vs H Q E h => h.1) (fun cdv ar ou sh H vs Q E hr h => ?_)
  obtain ⟨_, p, l, rfl, hp, hl, k⟩ := h
  have tk := L2N.takes_of (X := cxOf (L2N.CX P w) P w K mg base ["_law_pool_here", "_law_text", "_law_how", "_law_at", "_law_char_here"] "_law_changed" (defScope s__law_changed) f cdv ar ou sh H E) rfl rfl rfl rfl
  refine ⟨_, (pss_cons (ps_asg (pe_fn F__law_draw (hr.mono (by decide)) (ps_of tk) (pa_cons (pv 0) (pa_cons pe_int pa_nil))) (pg_name (i := 2) sc__law_changed.nd rfl (Or.inl rfl)))
      (pss_cons (ps_asg (pe_fn F__law_draw (hr.mono (by decide)) (ps_of tk) (pa_cons (pv 0) (pa_cons (pe_op (u_add K) (pe_callB (c_len K) (by rfl) T.b_len (by decide +kernel) (pa_cons (pv 1) pa_nil)) pe_int) pa_nil))) (pg_name (i := 3) sc__law_changed.nd rfl (Or.inl rfl)))
      (pss_cons (ps_if (pt_cmpR (u_eq K hr.units) (pv 2) pe_int (nomark _))
      (pss_one (ps_ret (pe_op (u_add K) (pe_op (u_add K) (pe_slice (u_sl K) (pv 1) po_none (po_some (pv 3))) (pe_fn F__law_char (hr.mono (by decide)) (ps_of tk) (pa_cons (pv 0) pa_nil))) (pe_slice (u_sl K) (pv 1) (po_some (pe_op (u_add K) (pv 3) pe_int)) po_none))))
      pss_nil)
      (pss_cons (ps_if (pt_cmpR (u_eq K hr.units) (pv 2) pe_int (nomark _))
      (pss_one (ps_ret (pe_op (u_add K) (pe_op (u_add K) (pe_slice (u_sl K) (pv 1) po_none (po_some (pv 3))) (pe_fn F__law_char (hr.mono (by decide)) (ps_of tk) (pa_cons (pv 0) pa_nil))) (pe_slice (u_sl K) (pv 1) (po_some (pv 3)) po_none))))
      pss_nil)
      (pss_cons (ps_if (pt_cmpR (u_eq K hr.units) (pv 2) pe_int (nomark _))
      (pss_cons (ps_asg (pe_fn F__law_char (hr.mono (by decide)) (ps_of tk) (pa_cons (pv 0) pa_nil)) (pg_name (i := 4) sc__law_changed.nd rfl (Or.inl rfl)))
      (pss_one (ps_ret (pe_op (u_add K) (pe_op (u_add K) (pe_slice (u_sl K) (pv 1) po_none (po_some (pv 3))) (pe_op u_mulX (pv 4) (pe_op (u_add K) pe_int (pe_fn F__law_draw (hr.mono (by decide)) (ps_of tk) (pa_cons (pv 0) (pa_cons pe_int pa_nil)))))) (pe_slice (u_sl K) (pv 1) (po_some (pv 3)) po_none)))))
      pss_nil)
      (pss_cons (ps_if (pt_cmpR (u_eq K hr.units) (pv 2) pe_int (nomark _))
      (pss_one (ps_ret (pe_op (u_add K) (pe_slice (u_sl K) (pv 1) po_none (po_some (pv 3))) (pe_slice (u_sl K) (pv 1) (po_some (pe_op (u_add K) (pv 3) pe_int)) po_none))))
      pss_nil)
      (pss_one (ps_ret (pe_slice (u_sl K) (pv 1) po_none (po_some (pv 3))))))))))), ?_⟩
  try dsimp only [L2H.cxH, cxOf, Cx.suite, Cx.tr, List.map_cons, List.map_nil]
  refine run_start (σ := [some (.ref p), some (.str (S l)), none, none, none]) rfl ?_
  clear tk
  have hz : (S l).length ≤ sizeLine := by rw [S_len, sizeLine_eq]; omega
  reads_via
  refine call_draw hp (by decide) (by decide) fun r1 H1 r10 r11 b1 p1 => ?_
  reads_via
  refine v_lenS hz ?_
  rw [S_len]
  reads_via
  refine call_draw p1 (by omega) (by omega) fun r2 H2 r20 r21 b2 p2 => ?_
  reads_via
  obtain ⟨n2, rfl⟩ : ∃ n : Nat, r2 = (n : Int) := ⟨r2.toNat, by omega⟩
  refine br_d (fun c1 => ?_) (fun c1 => ?_)
  · reads_via
    refine v_slTo (by omega) fun l1 hl1 => ?_
    reads_via
    refine ⟨rfl, p, rfl, p2, fun b H3 b3 p3 => ?_⟩
    reads_via
    rw [S_chr b]
    refine v_addSS (by simp; omega) ?_
    reads_via
    rw [show ((n2 : Int) + 1) = ((n2 + 1 : Nat) : Int) by omega]
    refine v_slFrom (by omega) fun l3 hl3 => ?_
    reads_via
    refine v_addSS (by simp; omega) ?_
    reads_via
    exact k _ H3 (by simp; omega) ((b1.trans b2).trans b3) p3
  reads_via
  refine br_d (fun c2 => ?_) (fun c2 => ?_)
  · reads_via
    refine v_slTo (by omega) fun l1 hl1 => ?_
    reads_via
    refine ⟨rfl, p, rfl, p2, fun b H3 b3 p3 => ?_⟩
    reads_via
    rw [S_chr b]
    refine v_addSS (by simp; omega) ?_
    reads_via
    refine v_slFrom (by omega) fun l3 hl3 => ?_
    reads_via
    refine v_addSS (by simp; omega) ?_
    reads_via
    exact k _ H3 (by simp; omega) ((b1.trans b2).trans b3) p3
  reads_via
  refine br_d (fun c3 => ?_) (fun c3 => ?_)
  · reads_via
    refine ⟨rfl, p, rfl, p2, fun b H3 b3 p3 => ?_⟩
    reads_via
    refine v_slTo (by omega) fun l1 hl1 => ?_
    reads_via
    refine call_draw p3 (by decide) (by decide) fun r4 H4 r40 r41 b4 p4 => ?_
    reads_via
    refine v_repC (by omega) (by omega) fun l2 hl2 => ?_
    reads_via
    refine v_addSS (by omega) ?_
    reads_via
    refine v_slFrom (by omega) fun l3 hl3 => ?_
    reads_via
    refine v_addSS (by simp; omega) ?_
    reads_via
    exact k _ H4 (by simp; omega) (((b1.trans b2).trans b3).trans b4) p4
  reads_via
  refine br_d (fun c4 => ?_) (fun c4 => ?_)
  · reads_via
    refine v_slTo (by omega) fun l1 hl1 => ?_
    reads_via
    rw [show ((n2 : Int) + 1) = ((n2 + 1 : Nat) : Int) by omega]
    refine v_slFrom (by omega) fun l3 hl3 => ?_
    reads_via
    refine v_addSS (by omega) ?_
    reads_via
    exact k _ H2 (by simp; omega) (b1.trans b2) p2
  · reads_via
    refine v_slTo (by omega) fun l1 hl1 => ?_
    reads_via
    exact k _ H2 (by omega) (b1.trans b2) p2
set_option maxHeartbeats 4000000 in
theorem ok__law_note {P : Program} {w : World} {K : PySem.W.Frag} {mg : Str → Option Value} {base : Heap} {c : Ad} {f : Addr} {fd : FuncData} (F : Fun K "_law_note" "_law_note" s__law_note f fd) (T : Txt K mg c) (F__law_draw : Fn P w K mg base "_law_draw" 1 ["_law_pool_here", "_law_many"] [] (sp__law_draw c)) (F__law_close : Fn P w K mg base "_law_close" 1 ["_law_rows", "_law_texts"] [] (sp__law_close c)) (F__law_leaf : Fn P w K mg base "_law_leaf" 3 ["_law_pool_here"] [] (sp__law_leaf c)) :
    FnOk P w K mg base (L2N.CX P w) 4 f fd ["_law_pool_here"] (sp__law_note c) := by
  refine GG.Fun.okN F sc__law_note (fun vs H Q E h => h.1) (fun cdv ar ou sh H vs Q E hr h => ?_)
  obtain ⟨_, pl, rfl, hpl, k⟩ := h
  have tk := L2N.takes_of (X := cxOf (L2N.CX P w) P w K mg base ["_law_pool_here", "_law_rows", "_law_texts", "_law_many", "_law_k", "_law_way", "_law_leaf_here"] "_law_note" (defScope s__law_note) f cdv ar ou sh H E) rfl rfl rfl rfl
  refine ⟨_, (pss_cons (ps_asg (pe_lst (pa_cons (pe_lst pa_nil) pa_nil)) (pg_name (i := 1) sc__law_note.nd rfl (Or.inl rfl)))
      (pss_cons (ps_asg (pe_lst (pa_cons (pe_lst pa_nil) pa_nil)) (pg_name (i := 2) sc__law_note.nd rfl (Or.inl rfl)))
      (pss_cons (ps_if (pt_cmpR (u_eq K hr.units) (pe_fn F__law_draw (hr.mono (by decide)) (ps_of tk) (pa_cons (pv 0) (pa_cons pe_int pa_nil))) pe_int (nomark _))
      (pss_one (ps_for (passes_of rfl) rfl (pi_range1 (by rfl) T.b_range (pa_cons (pe_op u_sub pe_int (pe_fn F__law_draw (hr.mono (by decide)) (ps_of tk) (pa_cons (pv 0) (pa_cons pe_int pa_nil)))) pa_nil)) (pg_name (i := 4) sc__law_note.nd rfl (Or.inl rfl))
      (pss_cons (ps_expr (pe_bmK K (pe_bm PySem.F.plainAttrs_list PySem.F.slot_list_append PySem.F.type_list_append m_append (pv 1) (pa_cons (pe_lst pa_nil) pa_nil))))
      (pss_one (ps_expr (pe_bmK K (pe_bm PySem.F.plainAttrs_list PySem.F.slot_list_append PySem.F.type_list_append m_append (pv 2) (pa_cons (pe_lst pa_nil) pa_nil))))))))
      pss_nil)
      (pss_cons (ps_asg (pe_fn F__law_draw (hr.mono (by decide)) (ps_of tk) (pa_cons (pv 0) (pa_cons pe_int pa_nil))) (pg_name (i := 3) sc__law_note.nd rfl (Or.inl rfl)))
      (pss_cons (ps_if (pt_cmpR (u_eq K hr.units) (pe_fn F__law_draw (hr.mono (by decide)) (ps_of tk) (pa_cons (pv 0) (pa_cons pe_int pa_nil))) pe_int (nomark _))
      (pss_one (ps_asg (pe_op (u_add K) (pv 3) pe_int) (pg_name (i := 3) sc__law_note.nd rfl (Or.inl rfl))))
      pss_nil)
      (pss_cons (ps_for (passes_of rfl) rfl (pi_range1 (by rfl) T.b_range (pa_cons (pv 3) pa_nil)) (pg_name (i := 4) sc__law_note.nd rfl (Or.inl rfl))
      (pss_cons (ps_asg (pe_fn F__law_draw (hr.mono (by decide)) (ps_of tk) (pa_cons (pv 0) (pa_cons pe_int pa_nil))) (pg_name (i := 5) sc__law_note.nd rfl (Or.inl rfl)))
      (pss_one (ps_if (PW.pt (pw_and (pt_cmpR (u_eq K hr.units) (pv 5) pe_int (nomark _)) (pw_and1 (pt_cmpR u_lt (pe_callB (c_len K) (by rfl) T.b_len (by decide +kernel) (pa_cons (pv 1) pa_nil)) pe_int (nomark _)))))
      (pss_cons (ps_expr (pe_bmK K (pe_bm PySem.F.plainAttrs_list PySem.F.slot_list_append PySem.F.type_list_append m_append (pv 1) (pa_cons (pe_lst pa_nil) pa_nil))))
      (pss_one (ps_expr (pe_bmK K (pe_bm PySem.F.plainAttrs_list PySem.F.slot_list_append PySem.F.type_list_append m_append (pv 2) (pa_cons (pe_lst pa_nil) pa_nil))))))
      (pss_one (ps_if (PW.pt (pw_and (pt_cmpR (u_eq K hr.units) (pv 5) pe_int (nomark _)) (pw_and1 (pt_cmpR u_gt (pe_callB (c_len K) (by rfl) T.b_len (by decide +kernel) (pa_cons (pv 1) pa_nil)) pe_int (nomark _)))))
      (pss_one (ps_expr (pe_fn F__law_close (hr.mono (by decide)) (ps_of tk) (pa_cons (pv 1) (pa_cons (pv 2) pa_nil)))))
      (pss_cons (ps_asg (pe_fn F__law_leaf (hr.mono (by decide)) (ps_of tk) (pa_cons (pv 0) pa_nil)) (pg_name (i := 6) sc__law_note.nd rfl (Or.inl rfl)))
      (pss_cons (ps_expr (pe_bmK K (pe_bm PySem.F.plainAttrs_list PySem.F.slot_list_append PySem.F.type_list_append m_append (pe_ix (u_ix K) (pv 1) (pe_un un_neg pe_int) (fun _ _ => rfl)) (pa_cons (pv 6) pa_nil))))
      (pss_one (ps_if (pt_cmpR u_isN (pv 6) pe_non (nomark _))
      (pss_one (ps_expr (pe_bmK K (pe_bm PySem.F.plainAttrs_list PySem.F.slot_list_append PySem.F.type_list_append m_append (pe_ix (u_ix K) (pv 2) (pe_un un_neg pe_int) (fun _ _ => rfl)) (pa_cons pe_str pa_nil)))))
      (pss_one (ps_expr (pe_bmK K (pe_bm PySem.F.plainAttrs_list PySem.F.slot_list_append PySem.F.type_list_append m_append (pe_ix (u_ix K) (pv 2) (pe_un un_neg pe_int) (fun _ _ => rfl)) (pa_cons (pe_callTy c_str (by rfl) T.b_str (by decide +kernel) (pa_cons (pv 6) pa_nil)) pa_nil)))))))))))))))
      (pss_cons (ps_for (passes_of rfl) rfl (pi_range1 (by rfl) T.b_range (pa_cons (pe_op u_sub (pe_callB (c_len K) (by rfl) T.b_len (by decide +kernel) (pa_cons (pv 1) pa_nil)) pe_int) pa_nil)) (pg_name (i := 4) sc__law_note.nd rfl (Or.inl rfl))
      (pss_one (ps_expr (pe_fn F__law_close (hr.mono (by decide)) (ps_of tk) (pa_cons (pv 1) (pa_cons (pv 2) pa_nil))))))
      (pss_cons (ps_if (PW.pt (pw_and (pt_cmpR (u_eq K hr.units) (pe_callB (c_len K) (by rfl) T.b_len (by decide +kernel) (pa_cons (pe_ix (u_ix K) (pv 1) pe_int (fun _ _ => rfl)) pa_nil)) pe_int (nomark _)) (pw_and1 (pt_cmpR (u_eq K hr.units) (pe_fn F__law_draw (hr.mono (by decide)) (ps_of tk) (pa_cons (pv 0) (pa_cons pe_int pa_nil))) pe_int (nomark _)))))
      (pss_one (ps_ret (pe_tup (pa_cons (pe_ix (u_ix K) (pe_ix (u_ix K) (pv 1) pe_int (fun _ _ => rfl)) pe_int (fun _ _ => rfl)) (pa_cons (pe_ix (u_ix K) (pe_ix (u_ix K) (pv 2) pe_int (fun _ _ => rfl)) pe_int (fun _ _ => rfl)) pa_nil)))))
      pss_nil)
      (pss_one (ps_ret (pe_tup (pa_cons (pe_callTy (c_tuple K) (by rfl) T.b_tuple (by decide +kernel) (pa_cons (pe_ix (u_ix K) (pv 1) pe_int (fun _ _ => rfl)) pa_nil)) (pa_cons (pe_op (u_add K) (pe_op (u_add K) pe_str (pe_bmK K (pe_bm PySem.F.plainAttrs_str PySem.F.slot_str_join PySem.F.type_str_join (m_join K) pe_str (pa_cons (pe_ix (u_ix K) (pv 2) pe_int (fun _ _ => rfl)) pa_nil)))) pe_str) pa_nil))))))))))))), ?_⟩
  try dsimp only [L2H.cxH, cxOf, Cx.suite, Cx.tr, List.map_cons, List.map_nil]
  refine run_start (σ := [some (.ref pl), none, none, none, none, none, none]) rfl ?_
  clear tk
  o_reads
  rename_i r H1 nr e1 h1 q H2 nq e2 h2 t H3 nt e3 h3 p H4 np e4 h4
  have hT0 : Two H H4 pl q p [[]] := by
    have n1 : q ≠ r := Ne.symm (ne_of_none h1 nq)
    have n2 : r ≠ t := ne_of_none (e2.look h1) nt
    have n3 : q ≠ t := ne_of_none h2 nt
    have n4 : r ≠ p := ne_of_none (e3.look (e2.look h1)) np
    have n5 : q ≠ p := ne_of_none (e3.look h2) np
    have n6 : t ≠ p := ne_of_none h3 np
    have nq' := e1.free nq
    have nt' := e1.free (e2.free nt)
    have np' := e1.free (e2.free (e3.free np))
    refine ⟨(((e1.trans e2).trans e3).trans e4).but, (((hpl.ext e1).ext e2).ext e3).ext e4, hpl.lst, [r], [t], [[]], ⟨e4.look (e3.look h2), .cons (e4.look (e3.look (e2.look h1))) .nil, by simp [n1]⟩, ⟨h4, .cons (e4.look h3) .nil, by simp [Ne.symm n6]⟩, .cons rfl .nil, ?_, ?_, ?_⟩
    · intro x hx hy
      simp at hx hy
      rcases hx with rfl | rfl
      · rcases hy with rfl | rfl
        · exact n5 rfl
        · exact n3 rfl
      · rcases hy with rfl | rfl
        · exact n4 rfl
        · exact n2 rfl
    · intro x hx
      simp at hx
      rcases hx with rfl | rfl
      · exact nq'
      · exact nr
    · intro x hx
      simp at hx
      rcases hx with rfl | rfl
      · exact np'
      · exact nt'
  clear nr e1 h1 nq e2 h2 nt e3 h3 np e4 h4
  o_reads
  refine run_cut (fun σ' H' => ∃ (N : List (List Nt)) (v4 : Option V), σ' = [some (.ref pl), some (.ref q), some (.ref p), none, v4, none, none] ∧ Two H H' pl q p N ∧ 1 ≤ N.length ∧ N.length ≤ 100 ∧ GoodN 0 N ∧ tot N = 0) (fun nx' hn => ?_) ?_
  · reads_via
    refine call_draw hT0.pool (by decide) (by decide) fun r1 H5 r10 r11 b5 p5 => ?_
    have hT5 := hT0.draw b5 p5
    reads_via
    refine br_d (fun c1 => ?_) (fun c1 => ?_)
    · reads_via
      refine call_draw p5 (by decide) (by decide) fun r2 H6 r20 r21 b6 p6 => ?_
      have hT6 := hT5.draw b6 p6
      reads_via
      obtain ⟨m, hm, hm1⟩ : ∃ m : Nat, 99 - r2 = (m : Int) ∧ m ≤ 99 := ⟨(99 - r2).toNat, by omega, by omega⟩
      rw [hm]
      refine r_rng1 (by omega) (by omega) ?_
      rw [Int.toNat_natCast]
      refine f_range0 (fun i σ H' => ∃ (N : List (List Nt)) (v4 : Option V), σ = [some (.ref pl), some (.ref q), some (.ref p), none, v4, none, none] ∧ Two H H' pl q p N ∧ N.length = i + 1 ∧ GoodN 0 N ∧ tot N = 0) ⟨[[]], none, rfl, hT6, rfl, ⟨⟨trivial, by decide⟩, trivial⟩, rfl⟩ ?_ ?_
      · rintro i σ H7 hi ⟨N, v4, rfl, hT7, hNl, hG, ht⟩
        obtain ⟨xs, ys, hq, hp, hxl, hyl, npq, fin⟩ := hT7.push
        reads_via
        rename_i a H11 na e11 h11
        refine v_append (by got_up) (by omega) fun H12 c12 h12 => ?_
        have hp12 := c12.look npq (e11.look hp)
        reads_via
        rename_i b H13 nb e13 h13
        refine v_append (by got_up) (by omega) fun H14 c14 h14 => ?_
        reads_via
        have hT14 := fin a b H11 H12 H13 H14 na e11 h11 c12 h12 nb e13 h13 c14 h14
        refine ⟨N ++ [[]], _, rfl, hT14, by simp [hNl], good_snoc.mpr ⟨hG, trivial, by show 0 + (0 + N.length) ≤ 99; omega⟩, by rw [tot_snoc, ht]; rfl⟩
      · rintro σ H7 ⟨N, v4, rfl, hT7, hNl, hG, ht⟩
        reads_via
        exact hn _ _ ⟨N, v4, rfl, hT7, by omega, by omega, hG, ht⟩
    · reads_via
      exact hn _ _ ⟨[[]], _, rfl, hT5, by decide, by decide, ⟨⟨trivial, by decide⟩, trivial⟩, rfl⟩
  clear hT0
  rintro σ' H5 ⟨N0, v4, rfl, hT0, hN1, hN2, hG0, ht0⟩
  reads_via
  refine call_draw hT0.pool (by decide) (by decide) fun r1 H6 r10 r11 b6 p6 => ?_
  have hT6 := hT0.draw b6 p6
  o_reads
  refine run_cut (fun σ' H' => ∃ (m : Nat), m ≤ 63 ∧ σ' = [some (.ref pl), some (.ref q), some (.ref p), some (.int (m : Int)), v4, none, none] ∧ Two H H' pl q p N0) (fun nx' hn => ?_) ?_
  · reads_via
    refine call_draw p6 (by decide) (by decide) fun r2 H7 r20 r21 b7 p7 => ?_
    have hT7 := hT6.draw b7 p7
    reads_via
    refine br_d (fun c1 => ?_) (fun c1 => ?_)
    · reads_via
      exact hn _ _ ⟨(r1 + 50).toNat, by omega, by rw [show (((r1 + 50).toNat : Nat) : Int) = r1 + 50 by omega], hT7⟩
    · reads_via
      exact hn _ _ ⟨r1.toNat, by omega, by rw [show ((r1.toNat : Nat) : Int) = r1 by omega], hT7⟩
  clear hT6 hT0 b6 p6
  rintro σ' H7 ⟨m, hm, rfl, hT7⟩
  reads_via
  refine r_rng1 (by omega) (by omega) ?_
  rw [Int.toNat_natCast]
  refine f_range0 (fun i σ H' => ∃ (N : List (List Nt)) (v4 v5 v6 : Option V), σ = [some (.ref pl), some (.ref q), some (.ref p), some (.int (m : Int)), v4, v5, v6] ∧ Two H H' pl q p N ∧ 1 ≤ N.length ∧ N.length ≤ 100 ∧ GoodN 0 N ∧ tot N ≤ 205 * i) ⟨N0, _, _, _, rfl, hT7, hN1, hN2, hG0, by omega⟩ ?_ ?_
  · rintro i σ H8 hi ⟨N, w4, w5, w6, rfl, hT8, hl1, hl2, hG, ht⟩
    reads_via
    refine call_draw hT8.pool (by decide) (by decide) fun r3 H9 r30 r31 b9 p9 => ?_
    have hT9 := hT8.draw b9 p9
    obtain ⟨xs, ys, hq, hp, hxl, hyl, npq, _⟩ := hT9.push
    have leaf : ∀ (P0 : Prop), P0 → P0 := fun _ h => h
    have LEAF : ∀ (t : TS), True := fun _ => trivial
    reads_via
    refine br_d (fun c1 => ?_) (fun c1 => ?_)
    · reads_via
      refine br_d (fun c2 => ?_) (fun c2 => ?_)
      · have hNl : N.length < 100 := by omega
        clear hq hp hxl hyl npq
        obtain ⟨xs, ys, hq, hp, hxl, hyl, npq, fin⟩ := hT9.push
        reads_via
        rename_i a H11 na e11 h11
        refine v_append (by got_up) (by omega) fun H12 c12 h12 => ?_
        have hp12 := c12.look npq (e11.look hp)
        reads_via
        rename_i b H13 nb e13 h13
        refine v_append (by got_up) (by omega) fun H14 c14 h14 => ?_
        reads_via
        have hT14 := fin a b H11 H12 H13 H14 na e11 h11 c12 h12 nb e13 h13 c14 h14
        refine ⟨N ++ [[]], _, _, _, rfl, hT14, by simp, by simp; omega, good_snoc.mpr ⟨hG, trivial, by show 0 + (0 + N.length) ≤ 99; omega⟩, by rw [tot_snoc]; show _ + 0 ≤ _; omega⟩
      · end_str
        refine ⟨rfl, pl, rfl, p9, fun n v H10 hnv hok hd hwl hkind b10 p10 => ?_⟩
        clear hq hp hxl hyl npq
        have hT10 := hT9.draw b10 p10
        obtain ⟨N, cur, rfl⟩ := snoc_of (N := N) (by intro z; rw [z] at hl1; simp at hl1)
        rw [good_snoc] at hG
        rw [tot_snoc] at ht
        obtain ⟨xs, ys, us, a, b, hq, ha, hp, hb, npa, nba, hul, hxl, fin⟩ := hT10.leaf
        have hs1 := sz_len cur
        reads_via
        refine v_ixLast hq ?_
        reads_via
        refine v_append ha (by omega) fun H11 c11 h11 => ?_
        have hp11 := c11.look npa hp
        have hb11 := c11.look nba hb
        have good : ∀ H12 v4 v5 v6, But b H11 H12 → H12 b = some (.lst (txt cur ++ [.str (S (wr n))])) → ∃ (N : List (List Nt)) (w4 w5 w6 : Option V), ([some (.ref pl), some (.ref q), some (.ref p), some (.int (m : Int)), v4, v5, v6] : L2.St) = [some (.ref pl), some (.ref q), some (.ref p), some (.int (m : Int)), w4, w5, w6] ∧ Two H H12 pl q p N ∧ 1 ≤ N.length ∧ N.length ≤ 100 ∧ GoodN 0 N ∧ tot N ≤ 205 * (i + 1) :=
          fun H12 v4 v5 v6 c12 h12 => ⟨N ++ [cur ++ [n]], v4, v5, v6, rfl, fin n v H11 H12 hnv c11 h11 c12 h12, by simp, by simp at hl2 ⊢; omega, good_snoc.mpr ⟨hG.1, hG.2.leaf hok hd⟩, by rw [tot_snoc, sz_snoc]; omega⟩
        rcases hkind with ⟨rfl, rfl⟩ | ⟨l, rfl, rfl⟩ | ⟨z, rfl, rfl⟩
        · reads_via
          refine v_ixLast hp11 ?_
          reads_via
          refine v_append hb11 (by rw [txt_len]; omega) fun H12 c12 h12 => ?_
          reads_via
          exact good H12 _ _ _ c12 h12
        · reads_via
          refine v_ixLast hp11 ?_
          reads_via
          refine v_append hb11 (by rw [txt_len]; omega) fun H12 c12 h12 => ?_
          reads_via
          exact good H12 _ _ _ c12 h12
        · reads_via
          refine v_ixLast hp11 ?_
          reads_via
          refine v_strI (PySem.Flt.log2_lt_of (k := 1920) (by decide) (Nat.lt_trans (show z.natAbs < 10 ^ 200 from hok) (by decide +kernel))) ?_
          rw [toString_itx]
          reads_via
          refine v_append hb11 (by rw [txt_len]; omega) fun H12 c12 h12 => ?_
          reads_via
          exact good H12 _ _ _ c12 h12
    · reads_via
      refine br_d (fun c2 => ?_) (fun c2 => ?_)
      · reads_via
        refine br_d (fun c3 => ?_) (fun c3 => ?_)
        · obtain ⟨N, cur, rfl⟩ := snoc_of (N := N) (by intro z; rw [z] at hl1; simp at hl1)
          obtain ⟨N, rr, rfl⟩ := snoc_of (N := N) (by intro z; rw [z] at hxl; simp at hxl; rw [hxl] at c3; simp at c3)
          rw [good_snoc, good_snoc] at hG
          rw [tot_snoc, tot_snoc] at ht
          have hs1 := sz_len rr
          reads_via
          refine ⟨rfl, q, p, pl, H, N, rr, cur, rfl, hT9, by omega, by omega, fun H10 hT10 => ?_⟩
          reads_via
          refine ⟨N ++ [rr ++ [.tup cur]], _, _, _, rfl, hT10, by simp, by simp at hl2 ⊢; omega, good_snoc.mpr ⟨hG.1.1, hG.1.2.close (by have h := hG.2; rw [List.length_append, List.length_singleton] at h; exact h)⟩, ?_⟩
          rw [tot_snoc, sz_snoc]
          have := tup_len cur
          omega
        · reads_via
          refine ⟨rfl, pl, rfl, p9, fun n v H10 hnv hok hd hwl hkind b10 p10 => ?_⟩
          clear hq hp hxl hyl npq
          have hT10 := hT9.draw b10 p10
          obtain ⟨N, cur, rfl⟩ := snoc_of (N := N) (by intro z; rw [z] at hl1; simp at hl1)
          rw [good_snoc] at hG
          rw [tot_snoc] at ht
          obtain ⟨xs, ys, us, a, b, hq, ha, hp, hb, npa, nba, hul, hxl, fin⟩ := hT10.leaf
          have hs1 := sz_len cur
          reads_via
          refine v_ixLast hq ?_
          reads_via
          refine v_append ha (by omega) fun H11 c11 h11 => ?_
          have hp11 := c11.look npa hp
          have hb11 := c11.look nba hb
          have good : ∀ H12 v4 v5 v6, But b H11 H12 → H12 b = some (.lst (txt cur ++ [.str (S (wr n))])) → ∃ (N : List (List Nt)) (w4 w5 w6 : Option V), ([some (.ref pl), some (.ref q), some (.ref p), some (.int (m : Int)), v4, v5, v6] : L2.St) = [some (.ref pl), some (.ref q), some (.ref p), some (.int (m : Int)), w4, w5, w6] ∧ Two H H12 pl q p N ∧ 1 ≤ N.length ∧ N.length ≤ 100 ∧ GoodN 0 N ∧ tot N ≤ 205 * (i + 1) :=
            fun H12 v4 v5 v6 c12 h12 => ⟨N ++ [cur ++ [n]], v4, v5, v6, rfl, fin n v H11 H12 hnv c11 h11 c12 h12, by simp, by simp at hl2 ⊢; omega, good_snoc.mpr ⟨hG.1, hG.2.leaf hok hd⟩, by rw [tot_snoc, sz_snoc]; omega⟩
          rcases hkind with ⟨rfl, rfl⟩ | ⟨l, rfl, rfl⟩ | ⟨z, rfl, rfl⟩
          · reads_via
            refine v_ixLast hp11 ?_
            reads_via
            refine v_append hb11 (by rw [txt_len]; omega) fun H12 c12 h12 => ?_
            reads_via
            exact good H12 _ _ _ c12 h12
          · reads_via
            refine v_ixLast hp11 ?_
            reads_via
            refine v_append hb11 (by rw [txt_len]; omega) fun H12 c12 h12 => ?_
            reads_via
            exact good H12 _ _ _ c12 h12
          · reads_via
            refine v_ixLast hp11 ?_
            reads_via
            refine v_strI (PySem.Flt.log2_lt_of (k := 1920) (by decide) (Nat.lt_trans (show z.natAbs < 10 ^ 200 from hok) (by decide +kernel))) ?_
            rw [toString_itx]
            reads_via
            refine v_append hb11 (by rw [txt_len]; omega) fun H12 c12 h12 => ?_
            reads_via
            exact good H12 _ _ _ c12 h12
      · end_str
        refine ⟨rfl, pl, rfl, p9, fun n v H10 hnv hok hd hwl hkind b10 p10 => ?_⟩
        clear hq hp hxl hyl npq
        have hT10 := hT9.draw b10 p10
        obtain ⟨N, cur, rfl⟩ := snoc_of (N := N) (by intro z; rw [z] at hl1; simp at hl1)
        rw [good_snoc] at hG
        rw [tot_snoc] at ht
        obtain ⟨xs, ys, us, a, b, hq, ha, hp, hb, npa, nba, hul, hxl, fin⟩ := hT10.leaf
        have hs1 := sz_len cur
        reads_via
        refine v_ixLast hq ?_
        reads_via
        refine v_append ha (by omega) fun H11 c11 h11 => ?_
        have hp11 := c11.look npa hp
        have hb11 := c11.look nba hb
        have good : ∀ H12 v4 v5 v6, But b H11 H12 → H12 b = some (.lst (txt cur ++ [.str (S (wr n))])) → ∃ (N : List (List Nt)) (w4 w5 w6 : Option V), ([some (.ref pl), some (.ref q), some (.ref p), some (.int (m : Int)), v4, v5, v6] : L2.St) = [some (.ref pl), some (.ref q), some (.ref p), some (.int (m : Int)), w4, w5, w6] ∧ Two H H12 pl q p N ∧ 1 ≤ N.length ∧ N.length ≤ 100 ∧ GoodN 0 N ∧ tot N ≤ 205 * (i + 1) :=
          fun H12 v4 v5 v6 c12 h12 => ⟨N ++ [cur ++ [n]], v4, v5, v6, rfl, fin n v H11 H12 hnv c11 h11 c12 h12, by simp, by simp at hl2 ⊢; omega, good_snoc.mpr ⟨hG.1, hG.2.leaf hok hd⟩, by rw [tot_snoc, sz_snoc]; omega⟩
        rcases hkind with ⟨rfl, rfl⟩ | ⟨l, rfl, rfl⟩ | ⟨z, rfl, rfl⟩
        · reads_via
          refine v_ixLast hp11 ?_
          reads_via
          refine v_append hb11 (by rw [txt_len]; omega) fun H12 c12 h12 => ?_
          reads_via
          exact good H12 _ _ _ c12 h12
        · reads_via
          refine v_ixLast hp11 ?_
          reads_via
          refine v_append hb11 (by rw [txt_len]; omega) fun H12 c12 h12 => ?_
          reads_via
          exact good H12 _ _ _ c12 h12
        · reads_via
          refine v_ixLast hp11 ?_
          reads_via
          refine v_strI (PySem.Flt.log2_lt_of (k := 1920) (by decide) (Nat.lt_trans (show z.natAbs < 10 ^ 200 from hok) (by decide +kernel))) ?_
          rw [toString_itx]
          reads_via
          refine v_append hb11 (by rw [txt_len]; omega) fun H12 c12 h12 => ?_
          reads_via
          exact good H12 _ _ _ c12 h12
  · rintro σ H8 ⟨N, w4, w5, w6, rfl, hT8, hl1, hl2, hG, ht⟩
    obtain ⟨xs, ys, hq, hp, hxl, hyl, npq, _⟩ := hT8.push
    reads_via
    obtain ⟨m2, hm2⟩ : ∃ m2 : Nat, N.length = m2 + 1 := ⟨N.length - 1, by omega⟩
    have hm3 : m2 ≤ 99 := by omega
    rw [show ((xs.length : Nat) : Int) - 1 = (m2 : Int) by omega]
    refine r_rng1 (by omega) (by omega) ?_
    rw [Int.toNat_natCast]
    refine f_range0 (fun i σ H' => ∃ (N : List (List Nt)) (v4 v5 v6 : Option V), σ = [some (.ref pl), some (.ref q), some (.ref p), some (.int (m : Int)), v4, v5, v6] ∧ Two H H' pl q p N ∧ N.length + i = m2 + 1 ∧ GoodN 0 N ∧ tot N ≤ 205 * 63 + 3 * i) ⟨N, _, _, _, rfl, hT8, by omega, hG, by omega⟩ ?_ ?_
    · clear hT8 hl1 hl2 hG ht hxl hyl hq hp hm2
      rintro i σ H9 hi ⟨N, w4, w5, w6, rfl, hT9, hl, hG, ht⟩
      obtain ⟨N, cur, rfl⟩ := snoc_of (N := N) (by intro z; rw [z] at hl; simp at hl; omega)
      obtain ⟨N, rr, rfl⟩ := snoc_of (N := N) (by intro z; rw [z] at hl; simp at hl; omega)
      rw [good_snoc, good_snoc] at hG
      rw [tot_snoc, tot_snoc] at ht
      have hs1 := sz_len rr
      simp at hl
      reads_via
      refine ⟨rfl, q, p, pl, H, N, rr, cur, rfl, hT9, by omega, by omega, fun H10 hT10 => ?_⟩
      reads_via
      refine ⟨N ++ [rr ++ [.tup cur]], _, _, _, rfl, hT10, by simp; omega, good_snoc.mpr ⟨hG.1.1, hG.1.2.close (by have h := hG.2; rw [List.length_append, List.length_singleton] at h; exact h)⟩, ?_⟩
      rw [tot_snoc, sz_snoc]
      have := tup_len cur
      omega
    · clear hT8 hl1 hG ht hxl hyl hq hp npq
      rintro σ H9 ⟨N, w4, w5, w6, rfl, hT9, hl, hG, ht⟩
      obtain ⟨row, rfl⟩ : ∃ row, N = [row] := List.length_eq_one_iff.mp (by omega)
      obtain ⟨a, b, us, hq, ha, hnu, hp, hb, na, nb, nq, np⟩ := hT9.one
      have hok := hG.1
      have hul := hnu.len
      have hsz : sz row ≤ 50000 := by
        have : tot [row] = sz row := by unfold tot; simp
        omega
      have hfin : ∀ (H' : Hp), But pl H9 H' → Pool H' pl → Two H H' pl q p [row] := fun H' b1 p1 => hT9.draw b1 p1
      reads_via
      refine br_d (fun c1 => ?_) (fun c1 => ?_)
      · reads_via
        refine call_draw hT9.pool (by decide) (by decide) fun r5 H10 r50 r51 b10 p10 => ?_
        have hT10 := hT9.draw b10 p10
        obtain ⟨a', b', us', hq', ha', hnu', hp', hb', _⟩ := hT10.one
        obtain ⟨n, rfl⟩ : ∃ n, row = [n] := List.length_eq_one_iff.mp (by omega)
        obtain ⟨v, ws, rfl, hv, hws⟩ := hnu'
        cases (show ws = [] from hws)
        reads_via
        refine br_d (fun c2 => ?_) (fun c2 => ?_)
        · reads_via
          rename_i u H11 nu e11 hu
          refine k u v n H11 (hT10.fr.exts e11) (p10.ext e11) hu (NtV.mono e11.tups n v hv) hok.1.1 ?_ ?_
          · have := hok.2
            have h2 : depths [n] = max (depth n) 0 := rfl
            omega
          · have h2 := sz_snoc [] n
            simp at h2
            have h3 : sz ([] ++ [n]) = sz [n] := rfl
            simp at h3
            omega
        · reads_via
          rename_i u1 H12 nu1 e12 hu1
          refine v_joinL (ss := (wrs [n]).map S) (by rw [← txt_eq]; got_up) (by
      rw [show (((wrs [n]).map S).map (·.length)).sum = ((wrs [n]).map List.length).sum by rw [List.map_map]; exact congrArg List.sum (List.map_congr_left fun l _ => S_len l), List.length_map, wrs_len, show (Str.ofString " ").length = 1 from rfl]
      have := hsz
      unfold sz at this
      omega) ?_
          rw [glue_S]
          reads_via
          have hjl : (joinL [32] (wrs [n])).length + 2 ≤ 50000 + 2 := by
            have h1 := tup_len [n]
            rw [wr_tup_len] at h1
            omega
          refine v_addS (by rw [show (Str.ofString "(").length = 1 from rfl, S_len]; omega) ?_
          rw [show Str.ofString "(" = S [40] from rfl, S_app]
          reads_via
          refine v_addS (by rw [show (Str.ofString ")").length = 1 from rfl, S_len]; simp; omega) ?_
          rw [show Str.ofString ")" = S [41] from rfl, S_app]
          reads_via
          rename_i u2 H13 nu2 e13 hu2
          refine k u2 (.ref u1) (.tup [n]) H13 ((hT10.fr.exts e12).exts e13) ((p10.ext e12).ext e13) hu2 ⟨u1, [v], rfl, e13.look hu1, NtVs.mono (e12.trans e13).tups _ _ (⟨v, [], rfl, hv, rfl⟩)⟩ hok.1 ?_ ?_
          · have := hok.2
            show depths [n] + 1 ≤ 100
            omega
          · have := tup_len [n]
            omega
      · reads_via
        rename_i u1 H12 nu1 e12 hu1
        refine v_joinL (ss := (wrs row).map S) (by rw [← txt_eq]; got_up) (by
      rw [show (((wrs row).map S).map (·.length)).sum = ((wrs row).map List.length).sum by rw [List.map_map]; exact congrArg List.sum (List.map_congr_left fun l _ => S_len l), List.length_map, wrs_len, show (Str.ofString " ").length = 1 from rfl]
      have := hsz
      unfold sz at this
      omega) ?_
        rw [glue_S]
        reads_via
        have hjl : (joinL [32] (wrs row)).length + 2 ≤ 50000 + 2 := by
          have h1 := tup_len row
          rw [wr_tup_len] at h1
          omega
        refine v_addS (by rw [show (Str.ofString "(").length = 1 from rfl, S_len]; omega) ?_
        rw [show Str.ofString "(" = S [40] from rfl, S_app]
        reads_via
        refine v_addS (by rw [show (Str.ofString ")").length = 1 from rfl, S_len]; simp; omega) ?_
        rw [show Str.ofString ")" = S [41] from rfl, S_app]
        reads_via
        rename_i u2 H13 nu2 e13 hu2
        refine k u2 (.ref u1) (.tup row) H13 ((hT9.fr.exts e12).exts e13) ((hT9.pool.ext e12).ext e13) hu2 ⟨u1, us, rfl, e13.look hu1, NtVs.mono (e12.trans e13).tups _ _ (hnu)⟩ hok.1 ?_ ?_
        · have := hok.2
          show depths row + 1 ≤ 100
          omega
        · have := tup_len row
          omega
set_option maxHeartbeats 1000000 in
theorem ok_write_note {P : Program} {w : World} {K : PySem.W.Frag} {mg : Str → Option Value} {base : Heap} {c : Ad} {f : Addr} {fd : FuncData} (F : Fun K "write_note" "write_note" s_write_note f fd) (T : Txt K mg c) (hm : mg "write_note" = some (.ref f)) (hk : PySem.W.keepIn K (.ref f) = true) (hb : L2.Binds K fd ["note"] [])  (d : Nat) :
    FnOk P w K mg base (L2N.CX P w) (1 + d) f fd ["note"] (sp_write_note c d) := by
  induction d with
  | zero => exact ⟨fun _ _ _ _ h => h.elim, fun _ _ _ _ _ _ _ _ _ _ _ _ _ h => h.elim⟩
  | succ d ih =>
  have FR : Fn P w K mg base "write_note" (1 + d) ["note"] [] (sp_write_note c d) := ⟨_, _, _, ih, hm, hk, hb, .nil⟩
  refine GG.Fun.okN F sc_write_note (fun vs H Q E h => h.1) (fun cdv ar ou sh H vs Q E hr h => ?_)
  obtain ⟨_, v, n, rfl, hv, hok, hd, hl, k⟩ := h
  have tk := L2N.takes_of (X := cxOf (L2N.CX P w) P w K mg base ["note", "texts", "item"] "write_note" (defScope s_write_note) f cdv ar ou sh H E) rfl rfl rfl rfl
  refine ⟨_, (pss_cons (ps_if (pt_cmpR u_isN (pv 0) pe_non (nomark _))
      (pss_one (ps_ret pe_str))
      pss_nil)
      (pss_cons (ps_if (pt_tru K (pe_callB (c_isi K) (by rfl) T.b_isinstance (by decide +kernel) (pa_cons (pv 0) (pa_cons (pe_bltn (v := .ty "tuple") rfl T.b_tuple (by decide +kernel) rfl) pa_nil))) (by intro _; rfl))
      (pss_cons (ps_lcV [2] (ps_setLc (i := 1) (own := [("item", 2)])  (by rfl) sc_write_note.nd rfl rfl (sw_true rfl rfl rfl (by decide +kernel)) (pi_tupK K (pi_tup (pv 0))) (blkOk_by (own := [("item", 2)]) (N := ["note", "texts", "item"]) (sc := defScope s_write_note) (by decide +kernel)) (fun _ _ _ _ _ => (pg_name (i := 2) sc_write_note.nd rfl (Or.inl rfl))) (fun _ _ _ _ _ => pts_nil) (fun _ _ _ _ _ => (pe_fn FR (hr.mono (by first | exact Nat.le_refl _ | omega)) ps0 (pa_cons (pv 2) pa_nil)))))
      (pss_one (ps_ret (pe_op (u_add K) (pe_op (u_add K) pe_str (pe_bmK K (pe_bm PySem.F.plainAttrs_str PySem.F.slot_str_join PySem.F.type_str_join (m_join K) pe_str (pa_cons (pv 1) pa_nil)))) pe_str))))
      pss_nil)
      (pss_one (ps_ret (pe_callTy c_str (by rfl) T.b_str (by decide +kernel) (pa_cons (pv 0) pa_nil)))))), ?_⟩
  try dsimp only [L2H.cxH, cxOf, Cx.suite, Cx.tr, List.map_cons, List.map_nil]
  refine run_start (σ := [some (v), none, none]) rfl ?_
  clear tk
  match n, hv, hok, hd, hl, k with
  | .non, hv, hok, hd, hl, k =>
    cases (show v = .non from hv)
    reads_via
    exact k H Ext.rfl
  | .wd l, hv, hok, hd, hl, k =>
    cases (show v = .str (S l) from hv)
    reads_via
    exact k H Ext.rfl
  | .int i, hv, hok, hd, hl, k =>
    cases (show v = .int i from hv)
    reads_via
    refine v_strI (PySem.Flt.log2_lt_of (k := 1920) (by decide) (Nat.lt_trans (show i.natAbs < 10 ^ 200 from hok) (by decide +kernel))) ?_
    rw [toString_itx]
    exact k H Ext.rfl
  | .tup xs, hv, hok, hd, hl, k =>
    obtain ⟨a, us, rfl, ha, hs⟩ := hv
    have hul := hs.len
    rw [wr_tup_len] at hl
    have hjl := joinL_len (ls := wrs xs)
    rw [wrs_len] at hjl
    have hn : xs.length ≤ 500000 := by
      rcases hjl with h | ⟨h, _⟩
      · omega
      · have : xs.length = (wrs xs).length := wrs_len.symm
        rw [this, h]; decide
    reads_via
    refine lcPT (by got_up) (by omega) (fun i => .str (S ((wrs xs).getD i []))) (fun i x H1 k1 hx e1 hk => ?_) fun D H1 nD e1 h1 => ?_
    · obtain ⟨y, hy, hny⟩ := hs.at hx
      have hw : (wrs xs).getD i [] = wr y := by rw [List.getD_eq_getElem?_getD, wrs_at hy]; rfl
      have hwl := le_joinL (List.mem_of_getElem? (wrs_at hy))
      have hdy := depth_at hy
      have hd' : depths xs + 1 ≤ d := hd
      obtain ⟨d', rfl⟩ : ∃ d', d = d' + 1 := ⟨d - 1, by omega⟩
      reads_via
      refine ⟨rfl, x, y, rfl, NtV.mono e1.tups y x hny, ok_at hok hy, by omega, by omega, fun H2 e2 => ?_⟩
      have := hk H2 e2
      rw [hw] at this
      exact this
    rw [rng_S (by rw [hul, wrs_len])] at h1
    have hsz : (((wrs xs).map S).map (·.length)).sum = ((wrs xs).map List.length).sum := by
      rw [List.map_map]
      exact congrArg List.sum (List.map_congr_left fun l _ => S_len l)
    have hsum : ((wrs xs).map List.length).sum + xs.length ≤ 500000 := by
      rcases hjl with h | ⟨h, _⟩
      · omega
      · rw [h]
        have : xs.length = (wrs xs).length := wrs_len.symm
        rw [this, h]; decide
    reads_via
    refine v_joinL (by got_up) (by rw [hsz, List.length_map, wrs_len, show (Str.ofString " ").length = 1 from rfl]; omega) ?_
    rw [glue_S]
    reads_via
    refine v_addS (by rw [show (Str.ofString "(").length = 1 from rfl, S_len]; omega) ?_
    rw [show Str.ofString "(" = S [40] from rfl, S_app]
    reads_via
    refine v_addS (by rw [show (Str.ofString ")").length = 1 from rfl, S_len]; simp; omega) ?_
    rw [show Str.ofString ")" = S [41] from rfl, S_app]
    exact k H1 e1
set_option maxHeartbeats 4000000 in
theorem ok__law_asked {P : Program} {w : World} {K : PySem.W.Frag} {mg : Str → Option Value} {base : Heap} {c : Ad} {f : Addr} {fd : FuncData} (F : Fun K "_law_asked" "_law_asked" s__law_asked f fd) (T : Txt K mg c) (FH__law_whole : FnS P w K mg base "_law_whole" 1 ["_law_value"] (sp__law_whole c)) (FT__law_parsed : FnT P w K mg base "_law_parsed" 1 ["_law_text"] (sp__law_parsed c)) (F__law_same : Fn P w K mg base "_law_same" 2 ["_law_told", "_law_note_here", "_law_most"] [] (sp__law_same c)) (F_write_note : Fn P w K mg base "write_note" 103 ["note"] [] (sp_write_note c 102)) (F_read_note : Fn P w K mg base "read_note" 2 ["text"] [] (sp_read_note c)) (F__law_wrong : Fn P w K mg base "_law_wrong" 2 ["_law_text"] [] (sp__law_wrong c)) :
    FnOk P w K mg base (L2N.CX P w) 104 f fd ["_law_text"] (sp__law_asked c) := by
  refine GG.Fun.okN F sc__law_asked (fun vs H Q E h => h.1) (fun cdv ar ou sh H vs Q E hr h => ?_)
  obtain ⟨_, l, rfl, hl, k⟩ := h
  have tk := L2N.takes_of (X := cxOf (L2N.CX P w) P w K mg base ["_law_text", "_law_wrong_here", "e", "_law_told"] "_law_asked" (defScope s__law_asked) f cdv ar ou sh H E) rfl rfl rfl rfl
  refine ⟨_, (pss_cons (ps_asg (pe_fn F__law_wrong (hr.mono (by decide)) (ps_of tk) (pa_cons (pv 0) pa_nil)) (pg_name (i := 1) sc__law_asked.nd rfl (Or.inl rfl)))
      (pss_cons (ps_tryAs (i := 2) sc__law_asked.nd rfl ⟨rfl, by decide, Or.inl T.g_GangError⟩ tk
      (fun W pn xe tk po => (pss_one (ps_asg (pe_fn F_read_note (hr.mono (by decide)) (ps_of tk) (pa_cons (pv 0) pa_nil)) (pg_name (i := 3) sc__law_asked.nd rfl (Or.inl rfl)))))
      (fun a oe cls d pn hz hf => (pss_cons (ps_if (PW.pt (pw_or (pt_not (pt_tru K (pe_callB (call_isX K mg hz.zc hf) (by rfl) T.b_isinstance (by decide +kernel) (pa_cons (pv 2) (pa_cons (pe_glob (v := .ref c.BadNote) rfl T.g_BadNote rfl) pa_nil))) (by intro _; rfl))) (pw_or (pt_not (pt_tru K (pe_callB (call_isX K mg hz.zc hf) (by rfl) T.b_isinstance (by decide +kernel) (pa_cons (pv 2) (pa_cons (pe_bltn (v := .ty "ValueError") rfl T.b_ValueError (by decide +kernel) rfl) pa_nil))) (by intro _; rfl))) (pw_or1 (pt_tru K (pe_callB (call_isXT K mg hz.zc hf) (by rfl) T.b_isinstance (by decide +kernel) (pa_cons (pv 2) (pa_cons (pe_tup (pa_cons (pe_glob (v := .ref c.BadLine) rfl T.g_BadLine rfl) (pa_cons (pe_glob (v := .ref c.BadCertificate) rfl T.g_BadCertificate rfl) pa_nil))) pa_nil))) (by intro _; rfl))))))
      (pss_one (ps_ret pe_bl))
      pss_nil)
      (pss_one (ps_ret (pe_and (pe_cmpR (u_ne K hr.units) (pv 1) (pe_un un_neg pe_int) (nomark _)) (pe_and (pe_fnH FH__law_whole (room_suite hr (by decide)) (hot_suite hz hf) ps0 (pa_cons (pe_subj K mg hz.zc hf (pv 2)) pa_nil)) (pe_one (pe_cmpR (u_eq K hr.units) (pe_subj K mg hz.zc hf (pv 2)) (pv 1) (nomark _))))))))))
      (pss_one (ps_ret (pe_and1 (pe1_cmp (u_eq K hr.units) (pv 1) (pe1_un un_neg pe1_int) (nomark _)) (pet_and (pet_fn F__law_same (hr.mono (by decide)) (ps_of tk) (pat_cons (CwR.PET.of (pv 3)) (pat_cons (pet_fnT FT__law_parsed (hr.mono (by decide)) (ps_of tk) (pat_cons (CwR.PET.of (pv 0)) pat_nil)) (pat_cons (CwR.PET.of (pe_op (u_add K) (pe_callB (c_len K) (by rfl) T.b_len (by decide +kernel) (pa_cons (pv 0) pa_nil)) pe_int)) pat_nil)))) (pet_one (CwR.PET.of (pe_cmpR (u_eq K hr.units) (pe_fn F_write_note (hr.mono (by decide)) (ps_of tk) (pa_cons (pv 3) pa_nil)) (pv 0) (nomark _)))))))))), ?_⟩
  try dsimp only [L2H.cxH, cxOf, Cx.suite, Cx.tr, List.map_cons, List.map_nil]
  refine run_start (σ := [some (.str (S l)), none, none, none]) rfl ?_
  clear tk
  have htk : l.take l.length = l := List.take_length
  have hall : ∀ i s b, GN.run GN.start (l.take i) = some s → l[i]? = some b → GN.step s b = none → GN.run GN.start l = none := by
    intro i s b h1 h2 h3
    have := bad_take h1 h2 h3 (j := l.length) (List.getElem?_eq_some_iff.mp h2).1
    rwa [htk] at this
  reads_via
  refine ⟨rfl, l, rfl, by omega, fun i s b hr hb hs => ?_, fun s hr ho => ?_, fun s hr ho => ?_⟩
  · reads_via
    refine ⟨rfl, l, rfl, by omega, fun i' s' b' hr' hb' hs' d H1 e1 hd => ?_, fun s' hr' => absurd ((hall i s b hr hb hs).symm.trans hr') (by simp), fun s' n r hr' => absurd ((hall i s b hr hb hs).symm.trans hr') (by simp)⟩
    obtain rfl : i = i' := by
      rcases Nat.lt_trichotomy i i' with h | h | h
      · exact absurd ((bad_take hr hb hs h).symm.trans hr') (by simp)
      · exact h
      · exact absurd ((bad_take hr' hb' hs' h).symm.trans hr) (by simp)
    refine w_as T.x_BadNote_GangError fun ae oe pn na => ?_
    reads_via
    refine v_isX T.e_BadNote (by got_up) T.k_BadNote_BadNote (.own _) ?_
    reads_via
    refine v_isX T.e_BadNote (by got_up) T.k_BadNote_ValueError (.ty _) ?_
    reads_via
    rename_i tp H2 ntp e2 htp
    refine v_isXT (us := [.ref c.BadLine, .ref c.BadCertificate]) T.e_BadNote (by got_up) (by got_up) (.cons (.own _) (.cons (.own _) .nil)) (kitAny_cons T.k_BadNote_BadLine (fun _ => kitAny_cons T.k_BadNote_BadCertificate (fun _ => rfl) (fun z => nomatch z)) (fun z => nomatch z)) ?_
    end_str
    refine v_subj T.e_BadNote (by got_up) ?_
    reads_via
    refine ⟨rfl, _, rfl, ?_⟩
    reads_via
    refine v_subj T.e_BadNote (by got_up) ?_
    reads_via
    rw [decide_eq_true rfl]
    exact k _ (e1.trans e2)
  · reads_via
    refine ⟨rfl, l, rfl, by omega, fun i' s' b' hr' hb' hs' => absurd ((hall i' s' b' hr' hb' hs').symm.trans hr) (by simp), fun s' hr' ho' d H1 e1 hd => ?_, fun s' n r hr' h1 h2 => ?_⟩
    refine w_as T.x_BadNote_GangError fun ae oe pn na => ?_
    reads_via
    refine v_isX T.e_BadNote (by got_up) T.k_BadNote_BadNote (.own _) ?_
    reads_via
    refine v_isX T.e_BadNote (by got_up) T.k_BadNote_ValueError (.ty _) ?_
    reads_via
    rename_i tp H2 ntp e2 htp
    refine v_isXT (us := [.ref c.BadLine, .ref c.BadCertificate]) T.e_BadNote (by got_up) (by got_up) (.cons (.own _) (.cons (.own _) .nil)) (kitAny_cons T.k_BadNote_BadLine (fun _ => kitAny_cons T.k_BadNote_BadCertificate (fun _ => rfl) (fun z => nomatch z)) (fun z => nomatch z)) ?_
    end_str
    refine v_subj T.e_BadNote (by got_up) ?_
    reads_via
    refine ⟨rfl, _, rfl, ?_⟩
    reads_via
    refine v_subj T.e_BadNote (by got_up) ?_
    reads_via
    rw [decide_eq_true rfl]
    exact k _ (e1.trans e2)
    rw [hr] at hr'
    obtain rfl := Option.some.inj hr'
    rcases ho with ho | ho
    · exact absurd h1 ho
    · rw [ho] at h2; cases h2
  · reads_via
    refine ⟨rfl, l, rfl, by omega, fun i' s' b' hr' hb' hs' => absurd ((hall i' s' b' hr' hb' hs').symm.trans hr) (by simp), fun s' hr' ho' => ?_, fun s' n r hr' h1 h2 v H1 e1 hv => ?_⟩
    · rw [hr] at hr'
      obtain rfl := Option.some.inj hr'
      exact absurd ho' ho
    obtain ⟨hlw, hok, hdp⟩ := read_back hr' h1 h2
    subst hlw
    reads_via
    refine ⟨rfl, n, rfl, hok, hl, fun u H2 e2 hu => ?_⟩
    have hv2 := NtV.mono e2.tups n v hv
    reads_via
    refine v_lenS (by rw [S_len, sizeLine_eq]; omega) ?_
    rw [S_len]
    reads_via
    rw [show (((wr n).length : Nat) : Int) + 1 = (((wr n).length + 1 : Nat) : Int) by omega]
    refine ⟨rfl, v, u, n, (wr n).length + 1, rfl, hv2, hu, by have := nodes_le n hok; omega, by omega, fun H3 e3 => ?_⟩
    reads_via
    refine ⟨rfl, v, n, rfl, NtV.mono e3.tups n v hv2, hok, Nat.le_trans hdp (by decide), by omega, fun H4 e4 => ?_⟩
    reads_via
    rw [decide_eq_true rfl]
    exact k _ (((e1.trans e2).trans e3).trans e4)
set_option maxHeartbeats 4000000 in
theorem ok_law {P : Program} {w : World} {K : PySem.W.Frag} {mg : Str → Option Value} {base : Heap} {c : Ad} {f : Addr} {fd : FuncData} (F : Fun K "law" "law" s_law f fd) (T : Txt K mg c) (F__law_asked : Fn P w K mg base "_law_asked" 104 ["_law_text"] [] (sp__law_asked c)) (F__law_draw : Fn P w K mg base "_law_draw" 1 ["_law_pool_here", "_law_many"] [] (sp__law_draw c)) (F__law_changed : Fn P w K mg base "_law_changed" 3 ["_law_pool_here", "_law_text"] [] (sp__law_changed c)) (F__law_odd : Fn P w K mg base "_law_odd" 1 ["_law_at"] [] (sp__law_odd c)) (F__law_note : Fn P w K mg base "_law_note" 4 ["_law_pool_here"] [] (sp__law_note c)) (F__law_pool : Fn P w K mg base "_law_pool" 1 ["_law_script"] [] (sp__law_pool c)) :
    FnOk P w K mg base (L2N.CX P w) 105 f fd ["_law_script"] (sp_law c) := by
  refine GG.Fun.okN F sc_law (fun vs H Q E h => h.1) (fun cdv ar ou sh H vs Q E hr h => ?_)
  obtain ⟨_, a, ns, rfl, hS, hn, hb, k⟩ := h
  have tk := L2N.takes_of (X := cxOf (L2N.CX P w) P w K mg base ["_law_script", "_law_pool_here", "_law_text", "_law_k", "_law_spoilt", "_law_turn"] "law" (defScope s_law) f cdv ar ou sh H E) rfl rfl rfl rfl
  refine ⟨_, (pss_cons (ps_asg (pe_fn F__law_pool (hr.mono (by decide)) (ps_of tk) (pa_cons (pv 0) pa_nil)) (pg_name (i := 1) sc_law.nd rfl (Or.inl rfl)))
      (pss_cons (ps_asg (pe_ix (u_ix K) (pe_fn F__law_note (hr.mono (by decide)) (ps_of tk) (pa_cons (pv 1) pa_nil)) pe_int (fun _ _ => rfl)) (pg_name (i := 2) sc_law.nd rfl (Or.inl rfl)))
      (pss_cons (ps_if (PW.pt (pw_or (pt_not (pt_tru K (pe_fn F__law_asked (hr.mono (by decide)) (ps_of tk) (pa_cons (pv 2) pa_nil)) (by intro _; rfl))) (pw_or1 (pt_not (pt_tru K (pe_fn F__law_asked (hr.mono (by decide)) (ps_of tk) (pa_cons (pe_fn F__law_odd (hr.mono (by decide)) (ps_of tk) (pa_cons (pe_fn F__law_draw (hr.mono (by decide)) (ps_of tk) (pa_cons (pv 1) (pa_cons pe_int pa_nil))) pa_nil)) pa_nil)) (by intro _; rfl))))))
      (pss_one (ps_ret pe_bl))
      pss_nil)
      (pss_cons (ps_for (passes_of rfl) rfl (pi_range1 (by rfl) T.b_range (pa_cons pe_int pa_nil)) (pg_name (i := 3) sc_law.nd rfl (Or.inl rfl))
      (pss_cons (ps_asg (pv 2) (pg_name (i := 4) sc_law.nd rfl (Or.inl rfl)))
      (pss_cons (ps_for (passes_of rfl) rfl (pi_range1 (by rfl) T.b_range (pa_cons (pe_fn F__law_draw (hr.mono (by decide)) (ps_of tk) (pa_cons (pv 1) (pa_cons pe_int pa_nil))) pa_nil)) (pg_name (i := 5) sc_law.nd rfl (Or.inl rfl))
      (pss_one (ps_asg (pe_fn F__law_changed (hr.mono (by decide)) (ps_of tk) (pa_cons (pv 1) (pa_cons (pv 4) pa_nil))) (pg_name (i := 4) sc_law.nd rfl (Or.inl rfl)))))
      (pss_one (ps_if (pt_not (pt_tru K (pe_fn F__law_asked (hr.mono (by decide)) (ps_of tk) (pa_cons (pv 4) pa_nil)) (by intro _; rfl)))
      (pss_one (ps_ret pe_bl))
      pss_nil)))))
      (pss_one (ps_ret (pe_fn F__law_asked (hr.mono (by decide)) (ps_of tk) (pa_cons (pv 2) pa_nil)))))))), ?_⟩
  try dsimp only [L2H.cxH, cxOf, Cx.suite, Cx.tr, List.map_cons, List.map_nil]
  refine run_start (σ := [some (.ref a), none, none, none, none, none]) rfl ?_
  clear tk
  reads_via
  refine call_pool hS hn hb fun p H1 np e1 p1 => ?_
  reads_via
  refine ⟨rfl, p, rfl, p1, fun u v n H2 b2 p2 hu hv ok dp hl => ?_⟩
  reads_via
  refine ⟨rfl, wr n, rfl, by omega, fun H3 e3 => ?_⟩
  reads_via
  refine call_draw (p2.ext e3) (by decide) (by decide) fun r4 H4 r40 r41 b4 p4 => ?_
  obtain ⟨m4, rfl⟩ : ∃ m : Nat, r4 = (m : Int) := ⟨r4.toNat, by omega⟩
  reads_via
  refine ⟨rfl, m4, rfl, by omega, fun l5 H5 e5 hl5 => ?_⟩
  reads_via
  refine ⟨rfl, l5, rfl, by omega, fun H6 e6 => ?_⟩
  have p6 := (p4.ext e5).ext e6
  clear p1 p2 p4 e1 e3 e5 e6 b2 b4 hu hv
  reads_via
  refine f_range0 (fun i σ H' => ∃ v3 v4 v5, σ = [some (.ref a), some (.ref p), some (.str (S (wr n))), v3, v4, v5] ∧ Pool H' p) ⟨_, _, _, rfl, p6⟩ ?_ ?_
  · rintro i σ H7 hi ⟨v3, v4, v5, rfl, p7⟩
    reads_via
    refine call_draw p7 (by decide) (by decide) fun r8 H8 r80 r81 b8 p8 => ?_
    obtain ⟨m8, rfl⟩ : ∃ m : Nat, r8 = (m : Int) := ⟨r8.toNat, by omega⟩
    reads_via
    refine r_rng1 (by omega) (by omega) ?_
    rw [Int.toNat_natCast]
    refine f_range0 (fun j σ H' => ∃ l v5, σ = [some (.ref a), some (.ref p), some (.str (S (wr n))), some (.int (i : Int)), some (.str (S l)), v5] ∧ Pool H' p ∧ j ≤ 3 ∧ l.length ≤ 50002 + 300 * j) ⟨wr n, _, rfl, p8, by omega, by omega⟩ ?_ ?_
    · rintro j σ H9 hj ⟨l, v5, rfl, p9, hj3, hl9⟩
      reads_via
      refine ⟨rfl, p, l, rfl, p9, by omega, fun l' H10 hl' b10 p10 => ?_⟩
      reads_via
      exact ⟨l', _, rfl, p10, by omega, by omega⟩
    · rintro σ H9 ⟨l, v5, rfl, p9, hj3, hl9⟩
      reads_via
      refine ⟨rfl, l, rfl, by omega, fun H10 e10 => ?_⟩
      reads_via
      exact ⟨_, _, _, rfl, p9.ext e10⟩
  · rintro σ H7 ⟨v3, v4, v5, rfl, p7⟩
    reads_via
    refine ⟨rfl, wr n, rfl, by omega, fun H8 e8 => ?_⟩
    exact k _
end K08
namespace K08
open PySem L2 GG PyProof.Rows
abbrev s_E : Stmt := (inClass (top 1) 0)
theorem all_mk {l : PySem.W.OpenLaw} {w : World} {K : PySem.W.Frag} {h : Heap} {mg : Str → Option Value} {fa : Addr} {A_GangError A_BadNote A_BadLine A_BadCertificate A_fE : Addr} (X : K.In h) (G : h.Ns mainGlobals mg) (hfa : mg "law" = some (.ref fa))
    {u_DIGITS : Value}
    {u_LETTERS : Value}
    {u_FIRST_CHARS : Value}
    {u_WORD_CHARS : Value}
    {u_LONGEST_WORD : Value}
    {u_LONGEST_NUMBER : Value}
    {u_DEEPEST : Value}
    {oc_E dc_E pm_E cd_E ct_E : Value} {od_E an_E : Option Addr} {sl_E : Array (Option Value)}
    {nm_BadNote q_BadNote : Str} {N_BadNote : Addr} {bs_BadNote : List Value} {sn_BadNote : List Str} {sub_BadNote : List Value} {ab_BadNote : Bool} {col_BadNote : Option Bool} {dd_BadNote : Option Addr} {m0_BadNote m1_BadNote m2_BadNote m3_BadNote m5_BadNote : Option Value}
    {f__law_draw : Addr} {od__law_draw an__law_draw : Option Addr} {sl__law_draw : Array (Option Value)} {oc__law_draw kV__law_draw dc__law_draw pm__law_draw cd__law_draw ct__law_draw : Value}
    {f__law_pool : Addr} {od__law_pool an__law_pool : Option Addr} {sl__law_pool : Array (Option Value)} {oc__law_pool kV__law_pool dc__law_pool pm__law_pool cd__law_pool ct__law_pool : Value}
    {f_write_note : Addr} {od_write_note an_write_note : Option Addr} {sl_write_note : Array (Option Value)} {oc_write_note kV_write_note dc_write_note pm_write_note cd_write_note ct_write_note : Value}
    {f_goes_on : Addr} {od_goes_on an_goes_on : Option Addr} {sl_goes_on : Array (Option Value)} {oc_goes_on kV_goes_on dc_goes_on pm_goes_on cd_goes_on ct_goes_on : Value}
    {f_token_note : Addr} {od_token_note an_token_note : Option Addr} {sl_token_note : Array (Option Value)} {oc_token_note kV_token_note dc_token_note pm_token_note cd_token_note ct_token_note : Value}
    {f_close_row : Addr} {od_close_row an_close_row : Option Addr} {sl_close_row : Array (Option Value)} {oc_close_row kV_close_row dc_close_row pm_close_row cd_close_row ct_close_row : Value}
    {f_read_note : Addr} {od_read_note an_read_note : Option Addr} {sl_read_note : Array (Option Value)} {oc_read_note kV_read_note dc_read_note pm_read_note cd_read_note ct_read_note : Value}
    {f__law_word : Addr} {od__law_word an__law_word : Option Addr} {sl__law_word : Array (Option Value)} {oc__law_word kV__law_word dc__law_word pm__law_word cd__law_word ct__law_word : Value}
    {f__law_integer : Addr} {od__law_integer an__law_integer : Option Addr} {sl__law_integer : Array (Option Value)} {oc__law_integer kV__law_integer dc__law_integer pm__law_integer cd__law_integer ct__law_integer : Value}
    {f__law_leaf : Addr} {od__law_leaf an__law_leaf : Option Addr} {sl__law_leaf : Array (Option Value)} {oc__law_leaf kV__law_leaf dc__law_leaf pm__law_leaf cd__law_leaf ct__law_leaf : Value}
    {f__law_whole : Addr} {od__law_whole an__law_whole : Option Addr} {sl__law_whole : Array (Option Value)} {oc__law_whole kV__law_whole dc__law_whole pm__law_whole cd__law_whole ct__law_whole : Value}
    {f__law_same : Addr} {od__law_same an__law_same : Option Addr} {sl__law_same : Array (Option Value)} {oc__law_same kV__law_same dc__law_same pm__law_same cd__law_same ct__law_same : Value}
    {f__law_close : Addr} {od__law_close an__law_close : Option Addr} {sl__law_close : Array (Option Value)} {oc__law_close kV__law_close dc__law_close pm__law_close cd__law_close ct__law_close : Value}
    {f__law_note : Addr} {od__law_note an__law_note : Option Addr} {sl__law_note : Array (Option Value)} {oc__law_note kV__law_note dc__law_note pm__law_note cd__law_note ct__law_note : Value}
    {f__law_next : Addr} {od__law_next an__law_next : Option Addr} {sl__law_next : Array (Option Value)} {oc__law_next kV__law_next dc__law_next pm__law_next cd__law_next ct__law_next : Value}
    {f__law_wrong : Addr} {od__law_wrong an__law_wrong : Option Addr} {sl__law_wrong : Array (Option Value)} {oc__law_wrong kV__law_wrong dc__law_wrong pm__law_wrong cd__law_wrong ct__law_wrong : Value}
    {f__law_char : Addr} {od__law_char an__law_char : Option Addr} {sl__law_char : Array (Option Value)} {oc__law_char kV__law_char dc__law_char pm__law_char cd__law_char ct__law_char : Value}
    {f__law_odd : Addr} {od__law_odd an__law_odd : Option Addr} {sl__law_odd : Array (Option Value)} {oc__law_odd kV__law_odd dc__law_odd pm__law_odd cd__law_odd ct__law_odd : Value}
    {f__law_changed : Addr} {od__law_changed an__law_changed : Option Addr} {sl__law_changed : Array (Option Value)} {oc__law_changed kV__law_changed dc__law_changed pm__law_changed cd__law_changed ct__law_changed : Value}
    {f__law_parsed : Addr} {od__law_parsed an__law_parsed : Option Addr} {sl__law_parsed : Array (Option Value)} {oc__law_parsed kV__law_parsed dc__law_parsed pm__law_parsed cd__law_parsed ct__law_parsed : Value}
    {f__law_asked : Addr} {od__law_asked an__law_asked : Option Addr} {sl__law_asked : Array (Option Value)} {oc__law_asked kV__law_asked dc__law_asked pm__law_asked cd__law_asked ct__law_asked : Value}
    {f_law : Addr} {od_law an_law : Option Addr} {sl_law : Array (Option Value)} {oc_law kV_law dc_law pm_law cd_law ct_law : Value}
    (z_ValueError : PySem.W.nsIn K mainGlobals "ValueError" = some none)
    (z_len : PySem.W.nsIn K mainGlobals "len" = some none)
    (z_int : PySem.W.nsIn K mainGlobals "int" = some none)
    (z_str : PySem.W.nsIn K mainGlobals "str" = some none)
    (z_isinstance : PySem.W.nsIn K mainGlobals "isinstance" = some none)
    (z_bool : PySem.W.nsIn K mainGlobals "bool" = some none)
    (z_range : PySem.W.nsIn K mainGlobals "range" = some none)
    (z_list : PySem.W.nsIn K mainGlobals "list" = some none)
    (z_zip : PySem.W.nsIn K mainGlobals "zip" = some none)
    (z_tuple : PySem.W.nsIn K mainGlobals "tuple" = some none)
    (z_enumerate : PySem.W.nsIn K mainGlobals "enumerate" = some none)
    (a_GangError : PySem.W.nsIn K mainGlobals "GangError" = some (some (.ref A_GangError)))
    (a_BadNote : PySem.W.nsIn K mainGlobals "BadNote" = some (some (.ref A_BadNote)))
    (a_BadLine : PySem.W.nsIn K mainGlobals "BadLine" = some (some (.ref A_BadLine)))
    (a_BadCertificate : PySem.W.nsIn K mainGlobals "BadCertificate" = some (some (.ref A_BadCertificate)))
    (ck_DIGITS : PySem.W.nsIn K mainGlobals "DIGITS" = some (some u_DIGITS))
    (cr_DIGITS : RelV (.str (Str.ofString "0123456789")) u_DIGITS)
    (ck_LETTERS : PySem.W.nsIn K mainGlobals "LETTERS" = some (some u_LETTERS))
    (cr_LETTERS : RelV (.str (Str.ofString "abcdefghijklmnopqrstuvwxyz")) u_LETTERS)
    (ck_FIRST_CHARS : PySem.W.nsIn K mainGlobals "FIRST_CHARS" = some (some u_FIRST_CHARS))
    (cr_FIRST_CHARS : RelV (.str (Str.ofString "abcdefghijklmnopqrstuvwxyz0123456789-")) u_FIRST_CHARS)
    (ck_WORD_CHARS : PySem.W.nsIn K mainGlobals "WORD_CHARS" = some (some u_WORD_CHARS))
    (cr_WORD_CHARS : RelV (.str (Str.ofString "abcdefghijklmnopqrstuvwxyz0123456789-:")) u_WORD_CHARS)
    (ck_LONGEST_WORD : PySem.W.nsIn K mainGlobals "LONGEST_WORD" = some (some u_LONGEST_WORD))
    (cr_LONGEST_WORD : RelV (.int 24) u_LONGEST_WORD)
    (ck_LONGEST_NUMBER : PySem.W.nsIn K mainGlobals "LONGEST_NUMBER" = some (some u_LONGEST_NUMBER))
    (cr_LONGEST_NUMBER : RelV (.int 200) u_LONGEST_NUMBER)
    (ck_DEEPEST : PySem.W.nsIn K mainGlobals "DEEPEST" = some (some u_DEEPEST))
    (cr_DEEPEST : RelV (.int 100) u_DEEPEST)
    (hn0 : PySem.W.specialIn K (.builtin "object.__class__") "__get__" = some (some (.builtin "getset_descriptor.__get__")))
    (ht0 : PySem.W.takesIn K (.builtin "object.__class__") = some true)
    (ei_BadNote : PySem.W.findIn K (.ref A_BadNote) "__init__" = some (some (.ref A_fE)))
    (l_E : K.lookup A_fE = some ⟨oc_E, od_E, .func (PySem.W.fnOf "__init__" "GangError.__init__" (defArgs s_E) (defBody s_E) (defScope s_E) .none .none dc_E pm_E an_E cd_E ct_E), sl_E⟩)
    (c_E : PySem.W.codeIn K cd_E "GangError.__init__" = true)
    (t_E : PySem.W.typeIn K (.ref A_fE) = some (.type "function"))
    (xL_BadNote : K.lookup A_BadNote = some (excClassObj nm_BadNote q_BadNote A_BadNote N_BadNote bs_BadNote [.ref A_GangError, .type "ValueError", .type "Exception", .type "BaseException", .type "object"] true sn_BadNote sub_BadNote ab_BadNote col_BadNote dd_BadNote m0_BadNote m1_BadNote m2_BadNote m3_BadNote m5_BadNote "ValueError.__new__"))
    (esa_BadNote : PySem.W.findIn K (.ref A_BadNote) "__setattr__" = some (some (.builtin "object.__setattr__")))
    (ega_BadNote : PySem.W.findIn K (.ref A_BadNote) "__getattribute__" = some (some (.builtin "BaseException.__getattribute__")))
    (egg_BadNote : PySem.W.findIn K (.ref A_BadNote) "__getattr__" = some none)
    (ens_BadNote : PySem.W.findIn K (.ref A_BadNote) "subject" = some none)
    (ek_BadNote : PySem.W.keepIn K (.ref A_BadNote) = true)
    (ebe_BadNote : PySem.W.subIn K (.ref A_BadNote) (.type "BaseException") = some true)
    (ety_BadNote : PySem.W.typeIn K (.ref A_BadNote) = some (.type "type"))
    (ehd_BadNote : PySem.W.hasDictIn K A_BadNote = true)
    (eha_BadNote : PySem.W.findIn K (.ref A_BadNote) "__class__" = some (some (.builtin "object.__class__")))
    (ehm_BadNote : PySem.W.mroIn K A_BadNote (.type "object") = some true)
    (cb_GangError : PySem.W.subIn K (.ref A_GangError) (.type "BaseException") = some true)
    (ch_GangError : PySem.W.hasDictIn K A_GangError = true)
    (ct_GangError : PySem.W.typeIn K (.ref A_GangError) = some (.type "type"))
    (cs_BadNote_GangError : PySem.W.subIn K (.ref A_BadNote) (.ref A_GangError) = some true)
    (k_BadNote_BadNote : PySem.W.kitOne K (.ref A_BadNote) (.ref A_BadNote) = some true)
    (k_BadNote_ValueError : PySem.W.kitOne K (.ref A_BadNote) (.type "ValueError") = some true)
    (k_BadNote_BadLine : PySem.W.kitOne K (.ref A_BadNote) (.ref A_BadLine) = some false)
    (k_BadNote_BadCertificate : PySem.W.kitOne K (.ref A_BadNote) (.ref A_BadCertificate) = some false)
    (a__law_draw : PySem.W.nsIn K mainGlobals "_law_draw" = some (some (.ref f__law_draw)))
    (l__law_draw : K.lookup f__law_draw = some ⟨oc__law_draw, od__law_draw, .func (PySem.W.fnOf "_law_draw" "_law_draw" (defArgs s__law_draw) (defBody s__law_draw) (defScope s__law_draw) .none kV__law_draw dc__law_draw pm__law_draw an__law_draw cd__law_draw ct__law_draw), sl__law_draw⟩)
    (c__law_draw : PySem.W.codeIn K cd__law_draw "_law_draw" = true)
    (k__law_draw : PySem.W.keepIn K (.ref f__law_draw) = true)
    (a__law_pool : PySem.W.nsIn K mainGlobals "_law_pool" = some (some (.ref f__law_pool)))
    (l__law_pool : K.lookup f__law_pool = some ⟨oc__law_pool, od__law_pool, .func (PySem.W.fnOf "_law_pool" "_law_pool" (defArgs s__law_pool) (defBody s__law_pool) (defScope s__law_pool) .none kV__law_pool dc__law_pool pm__law_pool an__law_pool cd__law_pool ct__law_pool), sl__law_pool⟩)
    (c__law_pool : PySem.W.codeIn K cd__law_pool "_law_pool" = true)
    (k__law_pool : PySem.W.keepIn K (.ref f__law_pool) = true)
    (a_write_note : PySem.W.nsIn K mainGlobals "write_note" = some (some (.ref f_write_note)))
    (l_write_note : K.lookup f_write_note = some ⟨oc_write_note, od_write_note, .func (PySem.W.fnOf "write_note" "write_note" (defArgs s_write_note) (defBody s_write_note) (defScope s_write_note) .none kV_write_note dc_write_note pm_write_note an_write_note cd_write_note ct_write_note), sl_write_note⟩)
    (c_write_note : PySem.W.codeIn K cd_write_note "write_note" = true)
    (k_write_note : PySem.W.keepIn K (.ref f_write_note) = true)
    (a_goes_on : PySem.W.nsIn K mainGlobals "goes_on" = some (some (.ref f_goes_on)))
    (l_goes_on : K.lookup f_goes_on = some ⟨oc_goes_on, od_goes_on, .func (PySem.W.fnOf "goes_on" "goes_on" (defArgs s_goes_on) (defBody s_goes_on) (defScope s_goes_on) .none kV_goes_on dc_goes_on pm_goes_on an_goes_on cd_goes_on ct_goes_on), sl_goes_on⟩)
    (c_goes_on : PySem.W.codeIn K cd_goes_on "goes_on" = true)
    (k_goes_on : PySem.W.keepIn K (.ref f_goes_on) = true)
    (a_token_note : PySem.W.nsIn K mainGlobals "token_note" = some (some (.ref f_token_note)))
    (l_token_note : K.lookup f_token_note = some ⟨oc_token_note, od_token_note, .func (PySem.W.fnOf "token_note" "token_note" (defArgs s_token_note) (defBody s_token_note) (defScope s_token_note) .none kV_token_note dc_token_note pm_token_note an_token_note cd_token_note ct_token_note), sl_token_note⟩)
    (c_token_note : PySem.W.codeIn K cd_token_note "token_note" = true)
    (k_token_note : PySem.W.keepIn K (.ref f_token_note) = true)
    (a_close_row : PySem.W.nsIn K mainGlobals "close_row" = some (some (.ref f_close_row)))
    (l_close_row : K.lookup f_close_row = some ⟨oc_close_row, od_close_row, .func (PySem.W.fnOf "close_row" "close_row" (defArgs s_close_row) (defBody s_close_row) (defScope s_close_row) .none kV_close_row dc_close_row pm_close_row an_close_row cd_close_row ct_close_row), sl_close_row⟩)
    (c_close_row : PySem.W.codeIn K cd_close_row "close_row" = true)
    (k_close_row : PySem.W.keepIn K (.ref f_close_row) = true)
    (a_read_note : PySem.W.nsIn K mainGlobals "read_note" = some (some (.ref f_read_note)))
    (l_read_note : K.lookup f_read_note = some ⟨oc_read_note, od_read_note, .func (PySem.W.fnOf "read_note" "read_note" (defArgs s_read_note) (defBody s_read_note) (defScope s_read_note) .none kV_read_note dc_read_note pm_read_note an_read_note cd_read_note ct_read_note), sl_read_note⟩)
    (c_read_note : PySem.W.codeIn K cd_read_note "read_note" = true)
    (k_read_note : PySem.W.keepIn K (.ref f_read_note) = true)
    (a__law_word : PySem.W.nsIn K mainGlobals "_law_word" = some (some (.ref f__law_word)))
    (l__law_word : K.lookup f__law_word = some ⟨oc__law_word, od__law_word, .func (PySem.W.fnOf "_law_word" "_law_word" (defArgs s__law_word) (defBody s__law_word) (defScope s__law_word) .none kV__law_word dc__law_word pm__law_word an__law_word cd__law_word ct__law_word), sl__law_word⟩)
    (c__law_word : PySem.W.codeIn K cd__law_word "_law_word" = true)
    (k__law_word : PySem.W.keepIn K (.ref f__law_word) = true)
    (a__law_integer : PySem.W.nsIn K mainGlobals "_law_integer" = some (some (.ref f__law_integer)))
    (l__law_integer : K.lookup f__law_integer = some ⟨oc__law_integer, od__law_integer, .func (PySem.W.fnOf "_law_integer" "_law_integer" (defArgs s__law_integer) (defBody s__law_integer) (defScope s__law_integer) .none kV__law_integer dc__law_integer pm__law_integer an__law_integer cd__law_integer ct__law_integer), sl__law_integer⟩)
    (c__law_integer : PySem.W.codeIn K cd__law_integer "_law_integer" = true)
    (k__law_integer : PySem.W.keepIn K (.ref f__law_integer) = true)
    (a__law_leaf : PySem.W.nsIn K mainGlobals "_law_leaf" = some (some (.ref f__law_leaf)))
    (l__law_leaf : K.lookup f__law_leaf = some ⟨oc__law_leaf, od__law_leaf, .func (PySem.W.fnOf "_law_leaf" "_law_leaf" (defArgs s__law_leaf) (defBody s__law_leaf) (defScope s__law_leaf) .none kV__law_leaf dc__law_leaf pm__law_leaf an__law_leaf cd__law_leaf ct__law_leaf), sl__law_leaf⟩)
    (c__law_leaf : PySem.W.codeIn K cd__law_leaf "_law_leaf" = true)
    (k__law_leaf : PySem.W.keepIn K (.ref f__law_leaf) = true)
    (a__law_whole : PySem.W.nsIn K mainGlobals "_law_whole" = some (some (.ref f__law_whole)))
    (l__law_whole : K.lookup f__law_whole = some ⟨oc__law_whole, od__law_whole, .func (PySem.W.fnOf "_law_whole" "_law_whole" (defArgs s__law_whole) (defBody s__law_whole) (defScope s__law_whole) .none kV__law_whole dc__law_whole pm__law_whole an__law_whole cd__law_whole ct__law_whole), sl__law_whole⟩)
    (c__law_whole : PySem.W.codeIn K cd__law_whole "_law_whole" = true)
    (k__law_whole : PySem.W.keepIn K (.ref f__law_whole) = true)
    (a__law_same : PySem.W.nsIn K mainGlobals "_law_same" = some (some (.ref f__law_same)))
    (l__law_same : K.lookup f__law_same = some ⟨oc__law_same, od__law_same, .func (PySem.W.fnOf "_law_same" "_law_same" (defArgs s__law_same) (defBody s__law_same) (defScope s__law_same) .none kV__law_same dc__law_same pm__law_same an__law_same cd__law_same ct__law_same), sl__law_same⟩)
    (c__law_same : PySem.W.codeIn K cd__law_same "_law_same" = true)
    (k__law_same : PySem.W.keepIn K (.ref f__law_same) = true)
    (a__law_close : PySem.W.nsIn K mainGlobals "_law_close" = some (some (.ref f__law_close)))
    (l__law_close : K.lookup f__law_close = some ⟨oc__law_close, od__law_close, .func (PySem.W.fnOf "_law_close" "_law_close" (defArgs s__law_close) (defBody s__law_close) (defScope s__law_close) .none kV__law_close dc__law_close pm__law_close an__law_close cd__law_close ct__law_close), sl__law_close⟩)
    (c__law_close : PySem.W.codeIn K cd__law_close "_law_close" = true)
    (k__law_close : PySem.W.keepIn K (.ref f__law_close) = true)
    (a__law_note : PySem.W.nsIn K mainGlobals "_law_note" = some (some (.ref f__law_note)))
    (l__law_note : K.lookup f__law_note = some ⟨oc__law_note, od__law_note, .func (PySem.W.fnOf "_law_note" "_law_note" (defArgs s__law_note) (defBody s__law_note) (defScope s__law_note) .none kV__law_note dc__law_note pm__law_note an__law_note cd__law_note ct__law_note), sl__law_note⟩)
    (c__law_note : PySem.W.codeIn K cd__law_note "_law_note" = true)
    (k__law_note : PySem.W.keepIn K (.ref f__law_note) = true)
    (a__law_next : PySem.W.nsIn K mainGlobals "_law_next" = some (some (.ref f__law_next)))
    (l__law_next : K.lookup f__law_next = some ⟨oc__law_next, od__law_next, .func (PySem.W.fnOf "_law_next" "_law_next" (defArgs s__law_next) (defBody s__law_next) (defScope s__law_next) .none kV__law_next dc__law_next pm__law_next an__law_next cd__law_next ct__law_next), sl__law_next⟩)
    (c__law_next : PySem.W.codeIn K cd__law_next "_law_next" = true)
    (k__law_next : PySem.W.keepIn K (.ref f__law_next) = true)
    (a__law_wrong : PySem.W.nsIn K mainGlobals "_law_wrong" = some (some (.ref f__law_wrong)))
    (l__law_wrong : K.lookup f__law_wrong = some ⟨oc__law_wrong, od__law_wrong, .func (PySem.W.fnOf "_law_wrong" "_law_wrong" (defArgs s__law_wrong) (defBody s__law_wrong) (defScope s__law_wrong) .none kV__law_wrong dc__law_wrong pm__law_wrong an__law_wrong cd__law_wrong ct__law_wrong), sl__law_wrong⟩)
    (c__law_wrong : PySem.W.codeIn K cd__law_wrong "_law_wrong" = true)
    (k__law_wrong : PySem.W.keepIn K (.ref f__law_wrong) = true)
    (a__law_char : PySem.W.nsIn K mainGlobals "_law_char" = some (some (.ref f__law_char)))
    (l__law_char : K.lookup f__law_char = some ⟨oc__law_char, od__law_char, .func (PySem.W.fnOf "_law_char" "_law_char" (defArgs s__law_char) (defBody s__law_char) (defScope s__law_char) .none kV__law_char dc__law_char pm__law_char an__law_char cd__law_char ct__law_char), sl__law_char⟩)
    (c__law_char : PySem.W.codeIn K cd__law_char "_law_char" = true)
    (k__law_char : PySem.W.keepIn K (.ref f__law_char) = true)
    (a__law_odd : PySem.W.nsIn K mainGlobals "_law_odd" = some (some (.ref f__law_odd)))
    (l__law_odd : K.lookup f__law_odd = some ⟨oc__law_odd, od__law_odd, .func (PySem.W.fnOf "_law_odd" "_law_odd" (defArgs s__law_odd) (defBody s__law_odd) (defScope s__law_odd) .none kV__law_odd dc__law_odd pm__law_odd an__law_odd cd__law_odd ct__law_odd), sl__law_odd⟩)
    (c__law_odd : PySem.W.codeIn K cd__law_odd "_law_odd" = true)
    (k__law_odd : PySem.W.keepIn K (.ref f__law_odd) = true)
    (a__law_changed : PySem.W.nsIn K mainGlobals "_law_changed" = some (some (.ref f__law_changed)))
    (l__law_changed : K.lookup f__law_changed = some ⟨oc__law_changed, od__law_changed, .func (PySem.W.fnOf "_law_changed" "_law_changed" (defArgs s__law_changed) (defBody s__law_changed) (defScope s__law_changed) .none kV__law_changed dc__law_changed pm__law_changed an__law_changed cd__law_changed ct__law_changed), sl__law_changed⟩)
    (c__law_changed : PySem.W.codeIn K cd__law_changed "_law_changed" = true)
    (k__law_changed : PySem.W.keepIn K (.ref f__law_changed) = true)
    (a__law_parsed : PySem.W.nsIn K mainGlobals "_law_parsed" = some (some (.ref f__law_parsed)))
    (l__law_parsed : K.lookup f__law_parsed = some ⟨oc__law_parsed, od__law_parsed, .func (PySem.W.fnOf "_law_parsed" "_law_parsed" (defArgs s__law_parsed) (defBody s__law_parsed) (defScope s__law_parsed) .none kV__law_parsed dc__law_parsed pm__law_parsed an__law_parsed cd__law_parsed ct__law_parsed), sl__law_parsed⟩)
    (c__law_parsed : PySem.W.codeIn K cd__law_parsed "_law_parsed" = true)
    (k__law_parsed : PySem.W.keepIn K (.ref f__law_parsed) = true)
    (a__law_asked : PySem.W.nsIn K mainGlobals "_law_asked" = some (some (.ref f__law_asked)))
    (l__law_asked : K.lookup f__law_asked = some ⟨oc__law_asked, od__law_asked, .func (PySem.W.fnOf "_law_asked" "_law_asked" (defArgs s__law_asked) (defBody s__law_asked) (defScope s__law_asked) .none kV__law_asked dc__law_asked pm__law_asked an__law_asked cd__law_asked ct__law_asked), sl__law_asked⟩)
    (c__law_asked : PySem.W.codeIn K cd__law_asked "_law_asked" = true)
    (k__law_asked : PySem.W.keepIn K (.ref f__law_asked) = true)
    (a_law : PySem.W.nsIn K mainGlobals "law" = some (some (.ref f_law)))
    (l_law : K.lookup f_law = some ⟨oc_law, od_law, .func (PySem.W.fnOf "law" "law" (defArgs s_law) (defBody s_law) (defScope s_law) .none kV_law dc_law pm_law an_law cd_law ct_law), sl_law⟩)
    (c_law : PySem.W.codeIn K cd_law "law" = true)
    (k_law : PySem.W.keepIn K (.ref f_law) = true)
    : ∃ fd : FuncData, (∀ (s : Shared) (v : Value), BindsTo s fd ⟨[v], []⟩ [("_law_script", v)]) ∧ ∀ base : Heap, K.In base → base.Ns mainGlobals mg → FnOk l.prog w K mg base (L2N.CX l.prog w) 105 fa fd ["_law_script"] (spLaw K) := by
  have e := hfa.symm.trans (PySem.W.mg_of X G a_law)
  cases e
  let c : Ad := ⟨K, A_GangError, A_BadNote, A_BadLine, A_BadCertificate, A_fE⟩
  have e_BadNote : PySem.GErr.ErrTxt K mg "BadNote" A_BadNote A_fE := { gC := PySem.W.mg_of X G a_BadNote, cls := ⟨nm_BadNote, q_BadNote, N_BadNote, bs_BadNote, _, sn_BadNote, sub_BadNote, ab_BadNote, col_BadNote, dd_BadNote, m0_BadNote, m1_BadNote, m2_BadNote, m3_BadNote, m5_BadNote, xL_BadNote, rfl⟩, sa := esa_BadNote, ga := ega_BadNote, gg := egg_BadNote, noN := ens_BadNote, iC := ei_BadNote, tC := t_E, kC := ek_BadNote, exC := ebe_BadNote, tyC := ety_BadNote, hdC := ehd_BadNote, haC := eha_BadNote, hnC := hn0, htC := ht0, hmC := ehm_BadNote, fn := ⟨_, _, _, _, _, _, _, _, _, _, _, _, _, _, l_E, c_E⟩ }
  have T : Txt K mg c := { kk := rfl, b_ValueError := PySem.W.mg_none_of X G z_ValueError, b_len := PySem.W.mg_none_of X G z_len, b_int := PySem.W.mg_none_of X G z_int, b_str := PySem.W.mg_none_of X G z_str, b_isinstance := PySem.W.mg_none_of X G z_isinstance, b_bool := PySem.W.mg_none_of X G z_bool, b_range := PySem.W.mg_none_of X G z_range, b_list := PySem.W.mg_none_of X G z_list, b_zip := PySem.W.mg_none_of X G z_zip, b_tuple := PySem.W.mg_none_of X G z_tuple, b_enumerate := PySem.W.mg_none_of X G z_enumerate, g_GangError := PySem.W.mg_of X G a_GangError, g_BadNote := PySem.W.mg_of X G a_BadNote, g_BadLine := PySem.W.mg_of X G a_BadLine, g_BadCertificate := PySem.W.mg_of X G a_BadCertificate, e_BadNote := e_BadNote, x_BadNote_GangError := PySem.W.exm_ref cb_GangError ch_GangError ct_GangError cs_BadNote_GangError, k_BadNote_BadNote := k_BadNote_BadNote, k_BadNote_ValueError := k_BadNote_ValueError, k_BadNote_BadLine := k_BadNote_BadLine, k_BadNote_BadCertificate := k_BadNote_BadCertificate, k_DIGITS := ⟨_, PySem.W.mg_of X G ck_DIGITS, cr_DIGITS⟩, k_LETTERS := ⟨_, PySem.W.mg_of X G ck_LETTERS, cr_LETTERS⟩, k_FIRST_CHARS := ⟨_, PySem.W.mg_of X G ck_FIRST_CHARS, cr_FIRST_CHARS⟩, k_WORD_CHARS := ⟨_, PySem.W.mg_of X G ck_WORD_CHARS, cr_WORD_CHARS⟩, k_LONGEST_WORD := ⟨_, PySem.W.mg_of X G ck_LONGEST_WORD, cr_LONGEST_WORD⟩, k_LONGEST_NUMBER := ⟨_, PySem.W.mg_of X G ck_LONGEST_NUMBER, cr_LONGEST_NUMBER⟩, k_DEEPEST := ⟨_, PySem.W.mg_of X G ck_DEEPEST, cr_DEEPEST⟩ }
  have F_law_draw := fun_mk (st := s__law_draw) l__law_draw c__law_draw k__law_draw
  have b_law_draw := F_law_draw.binds (ps := ["_law_pool_here", "_law_many"]) fun _ _ _ _ _ _ us hl => match us, hl with | [_, _], _ => rfl
  have F_law_pool := fun_mk (st := s__law_pool) l__law_pool c__law_pool k__law_pool
  have b_law_pool := F_law_pool.binds (ps := ["_law_script"]) fun _ _ _ _ _ _ us hl => match us, hl with | [_], _ => rfl
  have Fwrite_note := fun_mk (st := s_write_note) l_write_note c_write_note k_write_note
  have bwrite_note := Fwrite_note.binds (ps := ["note"]) fun _ _ _ _ _ _ us hl => match us, hl with | [_], _ => rfl
  have Fgoes_on := fun_mk (st := s_goes_on) l_goes_on c_goes_on k_goes_on
  have bgoes_on := Fgoes_on.binds (ps := ["token", "char"]) fun _ _ _ _ _ _ us hl => match us, hl with | [_, _], _ => rfl
  have Ftoken_note := fun_mk (st := s_token_note) l_token_note c_token_note k_token_note
  have btoken_note := Ftoken_note.binds (ps := ["token"]) fun _ _ _ _ _ _ us hl => match us, hl with | [_], _ => rfl
  have Fclose_row := fun_mk (st := s_close_row) l_close_row c_close_row k_close_row
  have bclose_row := Fclose_row.binds (ps := ["rows"]) fun _ _ _ _ _ _ us hl => match us, hl with | [_], _ => rfl
  have Fread_note := fun_mk (st := s_read_note) l_read_note c_read_note k_read_note
  have bread_note := Fread_note.binds (ps := ["text"]) fun _ _ _ _ _ _ us hl => match us, hl with | [_], _ => rfl
  have F_law_word := fun_mk (st := s__law_word) l__law_word c__law_word k__law_word
  have b_law_word := F_law_word.binds (ps := ["_law_pool_here"]) fun _ _ _ _ _ _ us hl => match us, hl with | [_], _ => rfl
  have F_law_integer := fun_mk (st := s__law_integer) l__law_integer c__law_integer k__law_integer
  have b_law_integer := F_law_integer.binds (ps := ["_law_pool_here"]) fun _ _ _ _ _ _ us hl => match us, hl with | [_], _ => rfl
  have F_law_leaf := fun_mk (st := s__law_leaf) l__law_leaf c__law_leaf k__law_leaf
  have b_law_leaf := F_law_leaf.binds (ps := ["_law_pool_here"]) fun _ _ _ _ _ _ us hl => match us, hl with | [_], _ => rfl
  have F_law_whole := fun_mk (st := s__law_whole) l__law_whole c__law_whole k__law_whole
  have b_law_whole := F_law_whole.binds (ps := ["_law_value"]) fun _ _ _ _ _ _ us hl => match us, hl with | [_], _ => rfl
  have F_law_same := fun_mk (st := s__law_same) l__law_same c__law_same k__law_same
  have b_law_same := F_law_same.binds (ps := ["_law_told", "_law_note_here", "_law_most"]) fun _ _ _ _ _ _ us hl => match us, hl with | [_, _, _], _ => rfl
  have F_law_close := fun_mk (st := s__law_close) l__law_close c__law_close k__law_close
  have b_law_close := F_law_close.binds (ps := ["_law_rows", "_law_texts"]) fun _ _ _ _ _ _ us hl => match us, hl with | [_, _], _ => rfl
  have F_law_note := fun_mk (st := s__law_note) l__law_note c__law_note k__law_note
  have b_law_note := F_law_note.binds (ps := ["_law_pool_here"]) fun _ _ _ _ _ _ us hl => match us, hl with | [_], _ => rfl
  have F_law_next := fun_mk (st := s__law_next) l__law_next c__law_next k__law_next
  have b_law_next := F_law_next.binds (ps := ["_law_mode", "_law_size", "_law_depth", "_law_char_here"]) fun _ _ _ _ _ _ us hl => match us, hl with | [_, _, _, _], _ => rfl
  have F_law_wrong := fun_mk (st := s__law_wrong) l__law_wrong c__law_wrong k__law_wrong
  have b_law_wrong := F_law_wrong.binds (ps := ["_law_text"]) fun _ _ _ _ _ _ us hl => match us, hl with | [_], _ => rfl
  have F_law_char := fun_mk (st := s__law_char) l__law_char c__law_char k__law_char
  have b_law_char := F_law_char.binds (ps := ["_law_pool_here"]) fun _ _ _ _ _ _ us hl => match us, hl with | [_], _ => rfl
  have F_law_odd := fun_mk (st := s__law_odd) l__law_odd c__law_odd k__law_odd
  have b_law_odd := F_law_odd.binds (ps := ["_law_at"]) fun _ _ _ _ _ _ us hl => match us, hl with | [_], _ => rfl
  have F_law_changed := fun_mk (st := s__law_changed) l__law_changed c__law_changed k__law_changed
  have b_law_changed := F_law_changed.binds (ps := ["_law_pool_here", "_law_text"]) fun _ _ _ _ _ _ us hl => match us, hl with | [_, _], _ => rfl
  have F_law_parsed := fun_mk (st := s__law_parsed) l__law_parsed c__law_parsed k__law_parsed
  have b_law_parsed := F_law_parsed.binds (ps := ["_law_text"]) fun _ _ _ _ _ _ us hl => match us, hl with | [_], _ => rfl
  have F_law_asked := fun_mk (st := s__law_asked) l__law_asked c__law_asked k__law_asked
  have b_law_asked := F_law_asked.binds (ps := ["_law_text"]) fun _ _ _ _ _ _ us hl => match us, hl with | [_], _ => rfl
  have Flaw := fun_mk (st := s_law) l_law c_law k_law
  refine ⟨PySem.W.fnOf "law" "law" (defArgs s_law) (defBody s_law) (defScope s_law) .none kV_law dc_law pm_law an_law cd_law ct_law, fun s v => .of_eq rfl, fun base _ _ => ?_⟩
  have G_law_draw : FnOk l.prog w K mg base (L2N.CX l.prog w) 1 f__law_draw _ ["_law_pool_here", "_law_many"] (sp__law_draw c) := ok__law_draw F_law_draw T 
  have Z__law_draw : Fn l.prog w K mg base "_law_draw" 1 ["_law_pool_here", "_law_many"] [] (sp__law_draw c) := ⟨_, _, _, G_law_draw, PySem.W.mg_of X G a__law_draw, k__law_draw, b_law_draw, .nil⟩
  have G_law_pool : FnOk l.prog w K mg base (L2N.CX l.prog w) 1 f__law_pool _ ["_law_script"] (sp__law_pool c) := ok__law_pool F_law_pool T 
  have Z__law_pool : Fn l.prog w K mg base "_law_pool" 1 ["_law_script"] [] (sp__law_pool c) := ⟨_, _, _, G_law_pool, PySem.W.mg_of X G a__law_pool, k__law_pool, b_law_pool, .nil⟩
  have Ggoes_on : FnOk l.prog w K mg base (L2N.CX l.prog w) 1 f_goes_on _ ["token", "char"] (sp_goes_on c) := ok_goes_on Fgoes_on T 
  have Z_goes_on : Fn l.prog w K mg base "goes_on" 1 ["token", "char"] [] (sp_goes_on c) := ⟨_, _, _, Ggoes_on, PySem.W.mg_of X G a_goes_on, k_goes_on, bgoes_on, .nil⟩
  have Gtoken_note : FnOk l.prog w K mg base (L2N.CX l.prog w) 1 f_token_note _ ["token"] (sp_token_note c) := ok_token_note Ftoken_note T 
  have Z_token_note : Fn l.prog w K mg base "token_note" 1 ["token"] [] (sp_token_note c) := ⟨_, _, _, Gtoken_note, PySem.W.mg_of X G a_token_note, k_token_note, btoken_note, .nil⟩
  have Gclose_row : FnOk l.prog w K mg base (L2N.CX l.prog w) 1 f_close_row _ ["rows"] (sp_close_row c) := ok_close_row Fclose_row T 
  have Z_close_row : Fn l.prog w K mg base "close_row" 1 ["rows"] [] (sp_close_row c) := ⟨_, _, _, Gclose_row, PySem.W.mg_of X G a_close_row, k_close_row, bclose_row, .nil⟩
  have G_law_whole : FnOk l.prog w K mg base (L2N.CX l.prog w) 1 f__law_whole _ ["_law_value"] (sp__law_whole c) := ok__law_whole F_law_whole T 
  have Z__law_whole : Fn l.prog w K mg base "_law_whole" 1 ["_law_value"] [] (sp__law_whole c) := ⟨_, _, _, G_law_whole, PySem.W.mg_of X G a__law_whole, k__law_whole, b_law_whole, .nil⟩
  have GH__law_whole : L2H.FnH l.prog w K mg base (L2N.CX l.prog w) 1 f__law_whole _ ["_law_value"] (sp__law_whole c) := okH__law_whole F_law_whole T 
  have ZH__law_whole : FnS l.prog w K mg base "_law_whole" 1 ["_law_value"] (sp__law_whole c) := ⟨_, _, GH__law_whole, PySem.W.mg_of X G a__law_whole, k__law_whole, b_law_whole⟩
  have G_law_close : FnOk l.prog w K mg base (L2N.CX l.prog w) 1 f__law_close _ ["_law_rows", "_law_texts"] (sp__law_close c) := ok__law_close F_law_close T 
  have Z__law_close : Fn l.prog w K mg base "_law_close" 1 ["_law_rows", "_law_texts"] [] (sp__law_close c) := ⟨_, _, _, G_law_close, PySem.W.mg_of X G a__law_close, k__law_close, b_law_close, .nil⟩
  have G_law_next : FnOk l.prog w K mg base (L2N.CX l.prog w) 1 f__law_next _ ["_law_mode", "_law_size", "_law_depth", "_law_char_here"] (sp__law_next c) := ok__law_next F_law_next T 
  have Z__law_next : Fn l.prog w K mg base "_law_next" 1 ["_law_mode", "_law_size", "_law_depth", "_law_char_here"] [] (sp__law_next c) := ⟨_, _, _, G_law_next, PySem.W.mg_of X G a__law_next, k__law_next, b_law_next, .nil⟩
  have G_law_odd : FnOk l.prog w K mg base (L2N.CX l.prog w) 1 f__law_odd _ ["_law_at"] (sp__law_odd c) := ok__law_odd F_law_odd T 
  have Z__law_odd : Fn l.prog w K mg base "_law_odd" 1 ["_law_at"] [] (sp__law_odd c) := ⟨_, _, _, G_law_odd, PySem.W.mg_of X G a__law_odd, k__law_odd, b_law_odd, .nil⟩
  have ZFT__law_parsed : FnT l.prog w K mg base "_law_parsed" 1 ["_law_text"] (sp__law_parsed c) := ⟨_, _, ok__law_parsed F_law_parsed T , PySem.W.mg_of X G a__law_parsed, k__law_parsed, b_law_parsed⟩
  have Gread_note : FnOk l.prog w K mg base (L2N.CX l.prog w) 2 f_read_note _ ["text"] (sp_read_note c) := ok_read_note Fread_note T Z_token_note Z_goes_on Z_close_row
  have Z_read_note : Fn l.prog w K mg base "read_note" 2 ["text"] [] (sp_read_note c) := ⟨_, _, _, Gread_note, PySem.W.mg_of X G a_read_note, k_read_note, bread_note, .nil⟩
  have G_law_word : FnOk l.prog w K mg base (L2N.CX l.prog w) 2 f__law_word _ ["_law_pool_here"] (sp__law_word c) := ok__law_word F_law_word T Z__law_draw
  have Z__law_word : Fn l.prog w K mg base "_law_word" 2 ["_law_pool_here"] [] (sp__law_word c) := ⟨_, _, _, G_law_word, PySem.W.mg_of X G a__law_word, k__law_word, b_law_word, .nil⟩
  have G_law_integer : FnOk l.prog w K mg base (L2N.CX l.prog w) 2 f__law_integer _ ["_law_pool_here"] (sp__law_integer c) := ok__law_integer F_law_integer T Z__law_draw
  have Z__law_integer : Fn l.prog w K mg base "_law_integer" 2 ["_law_pool_here"] [] (sp__law_integer c) := ⟨_, _, _, G_law_integer, PySem.W.mg_of X G a__law_integer, k__law_integer, b_law_integer, .nil⟩
  have G_law_same : FnOk l.prog w K mg base (L2N.CX l.prog w) 2 f__law_same _ ["_law_told", "_law_note_here", "_law_most"] (sp__law_same c) := ok__law_same F_law_same T Z__law_whole
  have Z__law_same : Fn l.prog w K mg base "_law_same" 2 ["_law_told", "_law_note_here", "_law_most"] [] (sp__law_same c) := ⟨_, _, _, G_law_same, PySem.W.mg_of X G a__law_same, k__law_same, b_law_same, .nil⟩
  have G_law_wrong : FnOk l.prog w K mg base (L2N.CX l.prog w) 2 f__law_wrong _ ["_law_text"] (sp__law_wrong c) := ok__law_wrong F_law_wrong T Z__law_next
  have Z__law_wrong : Fn l.prog w K mg base "_law_wrong" 2 ["_law_text"] [] (sp__law_wrong c) := ⟨_, _, _, G_law_wrong, PySem.W.mg_of X G a__law_wrong, k__law_wrong, b_law_wrong, .nil⟩
  have G_law_char : FnOk l.prog w K mg base (L2N.CX l.prog w) 2 f__law_char _ ["_law_pool_here"] (sp__law_char c) := ok__law_char F_law_char T Z__law_draw
  have Z__law_char : Fn l.prog w K mg base "_law_char" 2 ["_law_pool_here"] [] (sp__law_char c) := ⟨_, _, _, G_law_char, PySem.W.mg_of X G a__law_char, k__law_char, b_law_char, .nil⟩
  have G_law_leaf : FnOk l.prog w K mg base (L2N.CX l.prog w) 3 f__law_leaf _ ["_law_pool_here"] (sp__law_leaf c) := ok__law_leaf F_law_leaf T Z__law_integer Z__law_word Z__law_draw
  have Z__law_leaf : Fn l.prog w K mg base "_law_leaf" 3 ["_law_pool_here"] [] (sp__law_leaf c) := ⟨_, _, _, G_law_leaf, PySem.W.mg_of X G a__law_leaf, k__law_leaf, b_law_leaf, .nil⟩
  have G_law_changed : FnOk l.prog w K mg base (L2N.CX l.prog w) 3 f__law_changed _ ["_law_pool_here", "_law_text"] (sp__law_changed c) := ok__law_changed F_law_changed T Z__law_draw Z__law_char
  have Z__law_changed : Fn l.prog w K mg base "_law_changed" 3 ["_law_pool_here", "_law_text"] [] (sp__law_changed c) := ⟨_, _, _, G_law_changed, PySem.W.mg_of X G a__law_changed, k__law_changed, b_law_changed, .nil⟩
  have G_law_note : FnOk l.prog w K mg base (L2N.CX l.prog w) 4 f__law_note _ ["_law_pool_here"] (sp__law_note c) := ok__law_note F_law_note T Z__law_draw Z__law_close Z__law_leaf
  have Z__law_note : Fn l.prog w K mg base "_law_note" 4 ["_law_pool_here"] [] (sp__law_note c) := ⟨_, _, _, G_law_note, PySem.W.mg_of X G a__law_note, k__law_note, b_law_note, .nil⟩
  have Gwrite_note : FnOk l.prog w K mg base (L2N.CX l.prog w) 103 f_write_note _ ["note"] (sp_write_note c 102) := ok_write_note Fwrite_note T (PySem.W.mg_of X G a_write_note) k_write_note bwrite_note  102
  have Z_write_note : Fn l.prog w K mg base "write_note" 103 ["note"] [] (sp_write_note c 102) := ⟨_, _, _, Gwrite_note, PySem.W.mg_of X G a_write_note, k_write_note, bwrite_note, .nil⟩
  have G_law_asked : FnOk l.prog w K mg base (L2N.CX l.prog w) 104 f__law_asked _ ["_law_text"] (sp__law_asked c) := ok__law_asked F_law_asked T ZH__law_whole ZFT__law_parsed Z__law_same Z_write_note Z_read_note Z__law_wrong
  have Z__law_asked : Fn l.prog w K mg base "_law_asked" 104 ["_law_text"] [] (sp__law_asked c) := ⟨_, _, _, G_law_asked, PySem.W.mg_of X G a__law_asked, k__law_asked, b_law_asked, .nil⟩
  exact ok_law Flaw T Z__law_asked Z__law_draw Z__law_changed Z__law_odd Z__law_note Z__law_pool
theorem walk {l : PySem.W.OpenLaw} {q : Program} {loose : List Str} {XP : (Str → Option Value) → Heap → Prop} {YP : World → Heap → Prop} {d : DefRec} {K : Params → PySem.W.Frag} (hn : l.most = some 63) (hdf : d.params.defaults = [])
    (hY : ∀ (w : World) (h : Heap), YP w h → (K w.params).In h)
    (F : ∀ (w : World) (mg : Str → Option Value) (fa : Addr) (h : Heap), (K w.params).In h → h.Ns mainGlobals mg → mg d.name = some (.ref fa) →
      ∃ fd : FuncData, (∀ (s : Shared) (u : Value), BindsTo s fd ⟨[u], []⟩ [("_law_script", u)]) ∧ ∀ base : Heap, (K w.params).In base → base.Ns mainGlobals mg → FnOk l.prog w (K w.params) mg base (L2N.CX l.prog w) 105 fa fd ["_law_script"] (spLaw (K w.params))) :
    PySem.W.WalkO q loose XP YP l.row.toRowW d [] (fun f vs => PySem.call f vs) :=
  L2.walk_ofB (n := 63) (k := 105) (x := "_law_script") (CX := fun w => L2N.CX l.prog w) (sp := fun w => spLaw (K w.params)) hn (by decide) hdf ⟨rfl, by decide, by decide⟩ hY F (fun _ _ a ns hl hb _ hS => ⟨rfl, a, ns, rfl, hS, hl, hb, fun _ => rfl⟩)
    fun _ _ _ _ _ h => by
      obtain ⟨_, _, _, _, _, _, _, _, _, _, _, _, z⟩ := h
      exact z.elim
end K08
open PySem PySem.W PyProof.Rows in
set_option maxRecDepth 100000 in
set_option maxHeartbeats 0 in
theorem PySem.Challenge.cw_gangbooks_k08_note_first_wrong_holds : PySem.Challenge.rw_gangbooks_k08_note_first_wrong.Holds := by
  w_on; o_law; k_head; (case hw => w_witness2)
  k_fill
  refine K08.walk (l := PySem.Challenge.rw_gangbooks_k08_note_first_wrong) rfl rfl (fun w h Y => PySem.W.kIn_of Y) ?F
  case F =>
    intro w mg fa h KX G hmg
    refine' K08.all_mk KX G hmg ?z_ValueError ?z_len ?z_int ?z_str ?z_isinstance ?z_bool ?z_range ?z_list ?z_zip ?z_tuple ?z_enumerate ?a_GangError ?a_BadNote ?a_BadLine ?a_BadCertificate ?ck_DIGITS ?cr_DIGITS ?ck_LETTERS ?cr_LETTERS ?ck_FIRST_CHARS ?cr_FIRST_CHARS ?ck_WORD_CHARS ?cr_WORD_CHARS ?ck_LONGEST_WORD ?cr_LONGEST_WORD ?ck_LONGEST_NUMBER ?cr_LONGEST_NUMBER ?ck_DEEPEST ?cr_DEEPEST ?hn0 ?ht0 ?ei_BadNote ?l_E ?c_E ?t_E ?xL_BadNote ?esa_BadNote ?ega_BadNote ?egg_BadNote ?ens_BadNote ?ek_BadNote ?ebe_BadNote ?ety_BadNote ?ehd_BadNote ?eha_BadNote ?ehm_BadNote ?cb_GangError ?ch_GangError ?ct_GangError ?cs_BadNote_GangError ?k_BadNote_BadNote ?k_BadNote_ValueError ?k_BadNote_BadLine ?k_BadNote_BadCertificate ?a__law_draw ?l__law_draw ?c__law_draw ?k__law_draw ?a__law_pool ?l__law_pool ?c__law_pool ?k__law_pool ?a_write_note ?l_write_note ?c_write_note ?k_write_note ?a_goes_on ?l_goes_on ?c_goes_on ?k_goes_on ?a_token_note ?l_token_note ?c_token_note ?k_token_note ?a_close_row ?l_close_row ?c_close_row ?k_close_row ?a_read_note ?l_read_note ?c_read_note ?k_read_note ?a__law_word ?l__law_word ?c__law_word ?k__law_word ?a__law_integer ?l__law_integer ?c__law_integer ?k__law_integer ?a__law_leaf ?l__law_leaf ?c__law_leaf ?k__law_leaf ?a__law_whole ?l__law_whole ?c__law_whole ?k__law_whole ?a__law_same ?l__law_same ?c__law_same ?k__law_same ?a__law_close ?l__law_close ?c__law_close ?k__law_close ?a__law_note ?l__law_note ?c__law_note ?k__law_note ?a__law_next ?l__law_next ?c__law_next ?k__law_next ?a__law_wrong ?l__law_wrong ?c__law_wrong ?k__law_wrong ?a__law_char ?l__law_char ?c__law_char ?k__law_char ?a__law_odd ?l__law_odd ?c__law_odd ?k__law_odd ?a__law_changed ?l__law_changed ?c__law_changed ?k__law_changed ?a__law_parsed ?l__law_parsed ?c__law_parsed ?k__law_parsed ?a__law_asked ?l__law_asked ?c__law_asked ?k__law_asked ?a_law ?l_law ?c_law ?k_law
    (case z_ValueError => k_is)
    (case z_len => k_is)
    (case z_int => k_is)
    (case z_str => k_is)
    (case z_isinstance => k_is)
    (case z_bool => k_is)
    (case z_range => k_is)
    (case z_list => k_is)
    (case z_zip => k_is)
    (case z_tuple => k_is)
    (case z_enumerate => k_is)
    (case a_GangError => k_is)
    (case a_BadNote => k_is)
    (case a_BadLine => k_is)
    (case a_BadCertificate => k_is)
    (case ck_DIGITS => k_is)
    (case cr_DIGITS => first | exact ⟨_, rfl⟩ | exact ⟨_, by decide +kernel⟩)
    (case ck_LETTERS => k_is)
    (case cr_LETTERS => first | exact ⟨_, rfl⟩ | exact ⟨_, by decide +kernel⟩)
    (case ck_FIRST_CHARS => k_is)
    (case cr_FIRST_CHARS => first | exact ⟨_, rfl⟩ | exact ⟨_, by decide +kernel⟩)
    (case ck_WORD_CHARS => k_is)
    (case cr_WORD_CHARS => first | exact ⟨_, rfl⟩ | exact ⟨_, by decide +kernel⟩)
    (case ck_LONGEST_WORD => k_is)
    (case cr_LONGEST_WORD => first | exact ⟨_, rfl⟩ | exact ⟨_, by decide +kernel⟩)
    (case ck_LONGEST_NUMBER => k_is)
    (case cr_LONGEST_NUMBER => first | exact ⟨_, rfl⟩ | exact ⟨_, by decide +kernel⟩)
    (case ck_DEEPEST => k_is)
    (case cr_DEEPEST => first | exact ⟨_, rfl⟩ | exact ⟨_, by decide +kernel⟩)
    (case hn0 => k_is)
    (case ht0 => k_is)
    (case ei_BadNote => k_is)
    (case l_E => k_is)
    (case c_E => k_is)
    (case t_E => k_is)
    (case xL_BadNote => k_is)
    (case esa_BadNote => k_is)
    (case ega_BadNote => k_is)
    (case egg_BadNote => k_is)
    (case ens_BadNote => k_is)
    (case ek_BadNote => k_is)
    (case ebe_BadNote => k_is)
    (case ety_BadNote => k_is)
    (case ehd_BadNote => k_is)
    (case eha_BadNote => k_is)
    (case ehm_BadNote => k_is)
    (case cb_GangError => k_is)
    (case ch_GangError => k_is)
    (case ct_GangError => k_is)
    (case cs_BadNote_GangError => first | rfl | k_is)
    (case k_BadNote_BadNote => first | kit_is | k_is)
    (case k_BadNote_ValueError => first | kit_is | k_is)
    (case k_BadNote_BadLine => first | kit_is | k_is)
    (case k_BadNote_BadCertificate => first | kit_is | k_is)
    (case a__law_draw => k_is)
    (case l__law_draw => k_is)
    (case c__law_draw => k_is)
    (case k__law_draw => k_is)
    (case a__law_pool => k_is)
    (case l__law_pool => k_is)
    (case c__law_pool => k_is)
    (case k__law_pool => k_is)
    (case a_write_note => k_is)
    (case l_write_note => k_is)
    (case c_write_note => k_is)
    (case k_write_note => k_is)
    (case a_goes_on => k_is)
    (case l_goes_on => k_is)
    (case c_goes_on => k_is)
    (case k_goes_on => k_is)
    (case a_token_note => k_is)
    (case l_token_note => k_is)
    (case c_token_note => k_is)
    (case k_token_note => k_is)
    (case a_close_row => k_is)
    (case l_close_row => k_is)
    (case c_close_row => k_is)
    (case k_close_row => k_is)
    (case a_read_note => k_is)
    (case l_read_note => k_is)
    (case c_read_note => k_is)
    (case k_read_note => k_is)
    (case a__law_word => k_is)
    (case l__law_word => k_is)
    (case c__law_word => k_is)
    (case k__law_word => k_is)
    (case a__law_integer => k_is)
    (case l__law_integer => k_is)
    (case c__law_integer => k_is)
    (case k__law_integer => k_is)
    (case a__law_leaf => k_is)
    (case l__law_leaf => k_is)
    (case c__law_leaf => k_is)
    (case k__law_leaf => k_is)
    (case a__law_whole => k_is)
    (case l__law_whole => k_is)
    (case c__law_whole => k_is)
    (case k__law_whole => k_is)
    (case a__law_same => k_is)
    (case l__law_same => k_is)
    (case c__law_same => k_is)
    (case k__law_same => k_is)
    (case a__law_close => k_is)
    (case l__law_close => k_is)
    (case c__law_close => k_is)
    (case k__law_close => k_is)
    (case a__law_note => k_is)
    (case l__law_note => k_is)
    (case c__law_note => k_is)
    (case k__law_note => k_is)
    (case a__law_next => k_is)
    (case l__law_next => k_is)
    (case c__law_next => k_is)
    (case k__law_next => k_is)
    (case a__law_wrong => k_is)
    (case l__law_wrong => k_is)
    (case c__law_wrong => k_is)
    (case k__law_wrong => k_is)
    (case a__law_char => k_is)
    (case l__law_char => k_is)
    (case c__law_char => k_is)
    (case k__law_char => k_is)
    (case a__law_odd => k_is)
    (case l__law_odd => k_is)
    (case c__law_odd => k_is)
    (case k__law_odd => k_is)
    (case a__law_changed => k_is)
    (case l__law_changed => k_is)
    (case c__law_changed => k_is)
    (case k__law_changed => k_is)
    (case a__law_parsed => k_is)
    (case l__law_parsed => k_is)
    (case c__law_parsed => k_is)
    (case k__law_parsed => k_is)
    (case a__law_asked => k_is)
    (case l__law_asked => k_is)
    (case c__law_asked => k_is)
    (case k__law_asked => k_is)
    (case a_law => k_is)
    (case l_law => k_is)
    (case c_law => k_is)
    (case k_law => k_is)
