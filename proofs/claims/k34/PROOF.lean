import PyProof.Rows.All
import Wide.All
import OpenK.AllK
import Wide.FinOn
import KE.KOpsOwn
import KE.KExcIs
import HandS.ForMost
import HandS.ForExc
import HandS.IsInst
import HandS.Property
import HandS.CallSlots
import HandS.ExcCtx
import HandS.HotCalls
import HandS.ExcField
import HandS.ExcIs
import HandS.Flow
import HandS.Wide
import HandS.Conv
import HandS.Defaults
import HandS.Star
import HandS.Zip
import HandS.ListItems
import KE.KDictZip
import KE.KOwnIter
import KE.KDictIter
import HandS.Walk
import HandS.TupAny
import HandS.ClsMeth
import HandS.Dict
import HandS.Iter
import KE.KParD
import KE.GoesMore
import KE.KIntText
import KE.IntTextLaws
import HandS.StrMore
import HandS.RaiseMore
import HandS.FStr
import HandS.Codes
import HandS.CallLocal
import HandS.ReplaceLit
import HandS.ReplaceList
import PyProof.ToksMono
import KE.KUnpack
import PyProof.RulesMatchSeq
import PyProof.Rows.MatchSeqLen
import KE.GoesEnumKw
import HandS.Style
import HandS.GenList
import HandS.NoneIn
import KE.RegKIsAll
import HandS.EndBits
import PySem.Challenge.RW_gangbooks_k34_policy_words
set_option Elab.async false
set_option linter.all false
set_option maxRecDepth 100000
set_option maxHeartbeats 1000000
set_option synthInstance.maxSize 100000
set_option synthInstance.maxHeartbeats 1000000
/-! GA: defs, classes and own operators of the text, as rules of the hand layer; what a callee raises is wished for at the caller's slots. -/
namespace GG
open PySem L2 PyProof.Rows

/-- a def by its body, what it lets out having no context -/
theorem Fun.okN {P : Program} {w : World} {K : PySem.W.Frag} {mg : Str → Option Value} {base : Heap} {x qual : Str} {st : Stmt} {f : Addr} {fd : FuncData} {N ps : List Str} {k : Nat} {sp : Sp} (F : Fun K x qual st f fd) (S : FnScope N ps (defScope st)) (len : ∀ vs H Q E, sp vs H Q E → vs.length = ps.length)
    (hbody : ∀ (cdv : Value) (A : Around) (outer : List Env) (s : Shared) (H : Hp) (vs : List V) (Q : VK) (E : XK), Room k (A.deeper (envOfC qual (defScope st) s.heap.objs.size f cdv)) → sp vs H Q E →
      ∃ t, PSs (cxOf (L2N.CX P w) P w K mg base N qual (defScope st) f cdv A outer s H E) (defBody st) t ∧ t { nx := fun _ H' => Q .non H', rt := Q } (start N vs) H) : FnOk P w K mg base (L2N.CX P w) (k + 1) f fd ps sp := by
  obtain ⟨oc, od, kV, doc, pm, an, cdv, ct, osl, rfl, lk, hcd⟩ := F.ex
  exact fn_of lk hcd S len fun A outer s H vs Q E hr hsp => hbody cdv A outer s H vs Q E hr hsp
/-- .. called within an except suite -/
theorem Fun.okH {P : Program} {w : World} {K : PySem.W.Frag} {mg : Str → Option Value} {base : Heap} {x qual : Str} {st : Stmt} {f : Addr} {fd : FuncData} {N ps : List Str} {k : Nat} {sp : Sp} (F : Fun K x qual st f fd) (S : FnScope N ps (defScope st)) (len : ∀ vs H Q E, sp vs H Q E → vs.length = ps.length)
    (hbody : ∀ (cdv : Value) (A : Around) (outer : List Env) (s : Shared) (H : Hp) (vs : List V) (Q : VK) (E : XK) (p : Addr × Obj), L2H.Hot1 A p → L2H.RoomH k (A.deeper (envOfC qual (defScope st) s.heap.objs.size f cdv)) → sp vs H Q E →
      ∃ t, PSs (L2H.cxH (L2N.CX P w) P w K mg base N qual (defScope st) f cdv A outer s H E p) (defBody st) t ∧ t { nx := fun _ H' => Q .non H', rt := Q } (start N vs) H) : L2H.FnH P w K mg base (L2N.CX P w) (k + 1) f fd ps sp := by
  obtain ⟨oc, od, kV, doc, pm, an, cdv, ct, osl, rfl, lk, hcd⟩ := F.ex
  exact L2H.fn_ofH lk hcd S len fun A outer s H vs Q E p hot hr hsp => hbody cdv A outer s H vs Q E p hot hr hsp

/-! ### bundles: a def of the top, a special method, a method, a class that is made -/
structure Fn (P : Program) (w : World) (K : PySem.W.Frag) (mg : Str → Option Value) (base : Heap) (x : Str) (k : Nat) (ps : List Str) (dvs : List V) (sp : Sp) : Prop where
  ex : ∃ f fd ds, FnOk P w K mg base (L2N.CX P w) k f fd ps sp ∧ mg x = some (.ref f) ∧ PySem.W.keepIn K (.ref f) = true ∧ L2.Binds K fd ps ds ∧ Vals dvs ds
/-- the class at C has the special method name -/
structure Sm (P : Program) (w : World) (K : PySem.W.Frag) (mg : Str → Option Value) (base : Heap) (C : Addr) (name : Str) (k : Nat) (ps : List Str) (sp : Sp) : Prop where
  ex : ∃ f fd, FnOk P w K mg base (L2N.CX P w) k f fd ps sp ∧ PySem.W.findIn K (.ref C) name = some (some (.ref f)) ∧ PySem.W.isFn K (.ref f) = true ∧ L2.Binds K fd ps []
/-- the class at C has the method m -/
structure Mt (P : Program) (w : World) (K : PySem.W.Frag) (mg : Str → Option Value) (base : Heap) (C : Addr) (m : Str) (k : Nat) (ps : List Str) (dvs : List V) (sp : Sp) : Prop where
  ex : ∃ f fd ds, FnOk P w K mg base (L2N.CX P w) k f fd ps sp ∧ Meth K C m f ∧ L2.Binds K fd ps ds ∧ Vals dvs ds
  cls : Cls K C
/-- the class x, at C, is made by its __init__ -/
structure Mc (P : Program) (w : World) (K : PySem.W.Frag) (mg : Str → Option Value) (base : Heap) (x : Str) (C : Addr) (k : Nat) (ps : List Str) (dvs : List V) (sp : Sp) : Prop where
  ex : ∃ f fd ds, FnOk P w K mg base (L2N.CX P w) k f fd ps sp ∧ Mk K C f ∧ mg x = some (.ref C) ∧ L2.Binds K fd ps ds ∧ Vals dvs ds

/-- what a callee lets out is taken, at every slots -/
def Ps (X : Cx) (E : L2.St → XK) : Prop := ∀ σ, PassesAt (L2N.CX X.prog X.w) X σ (E σ)
theorem ps_of {X : Cx} {W : WX} (tk : L2N.Takes X W) : Ps X (WE W) := fun σ => L2N.passAt tk σ
/-- nothing is let out -/
abbrev W0 : WX := fun _ _ _ _ => False
theorem ps0 {X : Cx} : Ps X (WE W0) := fun _ _ _ _ _ _ _ h => by
  obtain ⟨_, _, _, _, _, _, _, _, _, _, _, _, z⟩ := h
  exact z.elim

section
variable {X : Cx} {CX : CXT} {k : Nat} {C f : Addr} {fd : FuncData} {ps : List Str} {sp : Sp} {E : L2.St → XK} {dvs : List V} {ds : List Value} {x m : Str} {p pos apos : Pos} {e o : Expr} {es : List Expr} {ta tb : TE} {t : TA} {a b : Expr}
/-- the callee runs somewhere below the body -/
theorem run_at {A : Around} {pins : List (Addr × Obj)} {σ : L2.St} {H : Hp} {s : Shared} {Q : VK} {E : XK} {us : List Value} {vs : List V} (F : FnOk X.prog X.w X.K X.mg X.base CX k f fd ps sp) (hr : Room k A) (fr : A.frames = X.A.frames) (hb : L2.Binds X.K fd ps ds) (hd : Vals dvs ds)
    (hx : PassesAt CX X σ E) (I : L2.Inv X pins σ H s) (r : Vals vs us) (h : sp (vs ++ dvs) H Q E) : wpAny (model X.prog X.w) A (call (.ref f) us) (EP X pins σ Q) X.xe s := by
  have e0 : Env0 X.prog X.w X.K X.mg X.base A X.stack s H := by
    have e := I.env0
    exact ⟨by rw [fr]; exact e.frames, e.mod, e.bs, e.bsz, e.funs, e.frf, e.hok, e.bare⟩
  have r2 : Vals (vs ++ dvs) (us ++ ds) := r.append hd
  have hl : (us ++ ds).length = ps.length := by rw [← r2.length]; exact F.len _ _ _ _ h
  refine wpAny_call (codeAny_mono (F.run A X.stack s H ⟨us, []⟩ (us ++ ds) (vs ++ dvs) Q E hr e0 (hb s us I.kIn hl) r2 h) fun r s' hq => ?_)
  cases r with
  | error e => exact hx pins H s e s' I hq
  | ok fl =>
    cases fl with
    | ret u => exact I.after hq
    | next => exact False.elim hq
    | brk => exact False.elim hq
    | cont => exact False.elim hq
/-- .. without defaults -/
theorem run_at0 {A : Around} {pins : List (Addr × Obj)} {σ : L2.St} {H : Hp} {s : Shared} {Q : VK} {E : XK} {us : List Value} {vs : List V} (F : FnOk X.prog X.w X.K X.mg X.base CX k f fd ps sp) (hr : Room k A) (fr : A.frames = X.A.frames) (hb : L2.Binds X.K fd ps [])
    (hx : PassesAt CX X σ E) (I : L2.Inv X pins σ H s) (r : Vals vs us) (h : sp vs H Q E) : wpAny (model X.prog X.w) A (call (.ref f) us) (EP X pins σ Q) X.xe s :=
  run_at (dvs := []) F hr fr hb .nil hx I r (by rw [List.append_nil]; exact h)

/-- f(e, ..) -/
theorem pe_fn (F : Fn X.prog X.w X.K X.mg X.base x k ps dvs sp) (hr : Room k X.A) (hx : Ps X E) (ha : PA X (e :: es) t) (hg : Gl X x := by rfl) (hdb : (x == ("__debug__" : Str)) = false := by decide)
    (he : starEach (e :: es) X.env = (false, eval e X.env) :: starEach es X.env := by rfl) (hpl : (backTo pos (starEach es X.env)).any (·.1) = false := by rfl) :
    PE X (.Call (.Name x p) (e :: es) [] pos) (tCallSD sp dvs E t) := by
  obtain ⟨f, fd, ds, F, hm, hk, hb, hd⟩ := F.ex
  exact pe_callSD F hr hg hm hk hb hd hx ha hdb he hpl

/-- o.m(e, ..), o.m() -/
def tMtS (C : Addr) (m : Str) (sp : Sp) (dvs : List V) (E : L2.St → XK) (ta : TE) (t : TA) : TE := fun σ H Q => ta σ H fun x H1 => ∃ a dx fs, x = .ref a ∧ H1 a = some (.ins C dx fs) ∧ fs.lookup m = none ∧
  t σ H1 fun vs H2 => sp (.ref a :: (vs ++ dvs)) H2 Q (E σ)
theorem pe_mt {pl : Sem Bool} (F : Mt X.prog X.w X.K X.mg X.base C m k ps dvs sp) (hr : Room k X.A) (hx : Ps X E) (he : PE X o ta) (ha : PA X (e :: es) t)
    (hst : starEach (e :: es) X.env = (false, eval e X.env) :: starEach es X.env := by rfl) (hpl : (backTo pos (starEach es X.env)).any (·.1) = false := by rfl)
    (ht : eval (.Call (.Attribute o m apos) (e :: es) [] pos) X.env = (do
      let ov ← eval o X.env
      standAt apos.atName
      let (f, first) ← holding [ov] (getMethod ov m pl)
      callWith pos f first (backTo pos (starEach (e :: es) X.env)) (backToKw pos (keywordEach [] X.env))) := by rfl) :
    PE X (.Call (.Attribute o m apos) (e :: es) [] pos) (tMtS C m sp dvs E ta t) := by
  obtain ⟨⟨f, fd, ds, F, hm, hb, hd⟩, c⟩ := F
  refine ⟨fun pins s σ H Q I h => ?_⟩
  refine PySem.W.methodCall_KW (pl := pl) (thn (he.run pins s σ H _ I h) fun u s1 ⟨x, H1, I1, rx, a, dx, fs, ex, ea, l, q⟩ => ?_) ht
  subst ex
  obtain rfl : u = Value.ref a := rx
  refine getmeth_ok I1 ea c hm l ?_
  refine PySem.W.callWith_K (first := [.ref a]) (h₀ := X.base) I.ok.mod.kin hm.kp (thn (ha.run pos pins s1 σ H1 _ I1 q) fun us s2 ⟨vs, H2, I2, r, q2⟩ => ⟨I2.kIn, ?_⟩) hst hpl
  exact run_at (us := .ref a :: us) (vs := .ref a :: vs) F hr rfl hb hd (hx σ) I2 (.cons rfl r) q2
theorem pe_mt0 {pl : Sem Bool} (F : Mt X.prog X.w X.K X.mg X.base C m k ps dvs sp) (hr : Room k X.A) (hx : Ps X E) (he : PE X o ta)
    (ht : eval (.Call (.Attribute o m apos) [] [] pos) X.env = (do
      let ov ← eval o X.env
      standAt apos.atName
      let (f, first) ← holding [ov] (getMethod ov m pl)
      callWith pos f first (backTo pos (starEach [] X.env)) (backToKw pos (keywordEach [] X.env))) := by rfl) :
    PE X (.Call (.Attribute o m apos) [] [] pos) (tMtS C m sp dvs E ta tNil) := by
  obtain ⟨⟨f, fd, ds, F, hm, hb, hd⟩, c⟩ := F
  refine ⟨fun pins s σ H Q I h => ?_⟩
  refine PySem.W.methodCall_KW (pl := pl) (thn (he.run pins s σ H _ I h) fun u s1 ⟨x, H1, I1, rx, a, dx, fs, ex, ea, l, q⟩ => ?_) ht
  subst ex
  obtain rfl : u = Value.ref a := rx
  refine getmeth_ok I1 ea c hm l ?_
  exact PySem.W.callWith_K0 (first := [.ref a]) I1.kIn hm.kp (run_at (us := [.ref a]) (vs := [.ref a]) F hr rfl hb hd (hx σ) I1 (.cons rfl .nil) q)

/-- C(e, ..): a new instance and its dict, then __init__ -/
def tMkS (C : Addr) (sp : Sp) (dvs : List V) (E : L2.St → XK) (t : TA) : TE := fun σ H Q => t σ H fun vs H1 => ∀ x dx, H1 x = none → H1 dx = none → dx ≠ x →
  sp (.ref x :: (vs ++ dvs)) (upd (upd H1 dx (.own x)) x (.ins C dx [])) (fun v H2 => v = .non ∧ Q (.ref x) H2) (E σ)
theorem run_mk {pins : List (Addr × Obj)} {σ : L2.St} {H : Hp} {s : Shared} {Q : VK} {E : XK} {us : List Value} {vs : List V} (M : Mk X.K C f) (F : FnOk X.prog X.w X.K X.mg X.base CX k f fd ps sp) (hr : Room (k + 1) X.A) (hb : L2.Binds X.K fd ps ds) (hd : Vals dvs ds)
    (hx : PassesAt CX X σ E) (I : L2.Inv X pins σ H s) (r : Vals vs us)
    (h : ∀ x dx, H x = none → H dx = none → dx ≠ x → sp (.ref x :: (vs ++ dvs)) (upd (upd H dx (.own x)) x (.ins C dx [])) (fun v H2 => v = .non ∧ Q (.ref x) H2) E) :
    wpAny (model X.prog X.w) X.A (call (.ref C) us) (EP X pins σ Q) X.xe s := by
  have hq := h (s.heap.objs.size + 1) s.heap.objs.size (I.hok.fresh (Nat.le_succ _)) (I.hok.fresh (Nat.le_refl _)) (Nat.ne_of_lt (Nat.lt_succ_self _))
  have I2 := Inv.made (C := C) I
  have r2 : Vals (V.ref (s.heap.objs.size + 1) :: (vs ++ dvs)) (Value.ref (s.heap.objs.size + 1) :: (us ++ ds)) := .cons rfl (r.append hd)
  have hl : (Value.ref (s.heap.objs.size + 1) :: us ++ ds).length = ps.length := by
    have e := r2.length
    rw [F.len _ _ _ _ hq] at e
    exact e.symm
  refine wpAny_call (make_map (f := f) I.kIn M.makes M.init (beq_iff_eq.mp M.fn) (codeAny_mono (F.run _ X.stack _ _ ⟨Value.ref (s.heap.objs.size + 1) :: us, []⟩
    (Value.ref (s.heap.objs.size + 1) :: (us ++ ds)) _ _ E (hr.make C us []) (I2.env0.make C us []) (hb _ (Value.ref (s.heap.objs.size + 1) :: us) I2.kIn hl) r2 hq) fun r s' hq' => ?_))
  cases r with
  | error e => exact hx pins _ _ e s' I2 hq'
  | ok fl =>
    cases fl with
    | ret u =>
      obtain ⟨v, H', I3, rv, ev, q3⟩ := I2.after hq'
      subst ev
      exact ⟨rv, ⟨V.ref (s.heap.objs.size + 1), H', I3, rfl, q3⟩⟩
    | next => exact False.elim hq'
    | brk => exact False.elim hq'
    | cont => exact False.elim hq'
theorem pe_mk (M : Mc X.prog X.w X.K X.mg X.base x C k ps dvs sp) (hr : Room (k + 1) X.A) (hx : Ps X E) (ha : PA X (e :: es) t) (hg : Gl X x := by rfl) (hdb : (x == ("__debug__" : Str)) = false := by decide)
    (he : starEach (e :: es) X.env = (false, eval e X.env) :: starEach es X.env := by rfl) (hpl : (backTo pos (starEach es X.env)).any (·.1) = false := by rfl) :
    PE X (.Call (.Name x p) (e :: es) [] pos) (tMkS C sp dvs E t) := by
  obtain ⟨f, fd, ds, F, M, hm, hb, hd⟩ := M.ex
  refine ⟨fun pins s σ H Q I h => ?_⟩
  refine wpAny_Call_Name_kw (ld_glob I hg hm ?_ hdb)
  refine PySem.W.callWith_K (h₀ := X.base) I.ok.mod.kin M.kp (thn (ha.run pos pins s σ H _ I h) fun us s1 ⟨vs, H1, I1, r, q⟩ => ⟨I1.kIn, ?_⟩) he hpl
  exact run_mk M F hr hb hd (hx σ) I1 r q

/-! ### operators with the slots -/
abbrev R2S := L2.St → R2
def OpS (X : Cx) (f : Value → Value → Sem Value) (r : R2S) : Prop :=
  ∀ (pins : List (Addr × Obj)) (s : Shared) (σ : L2.St) (H : Hp) (x y : V) (v u : Value) (Q : VK), L2.Inv X pins σ H s → RelV x v → RelV y u → r σ x y H Q →
    wpAny (model X.prog X.w) X.A (f v u) (EP X pins σ Q) X.xe s
def tOpS (r : R2S) (ta tb : TE) : TE := fun σ H Q => ta σ H fun x H1 => tb σ H1 fun y H2 => r σ x y H2 Q
theorem OpS.of {f : Value → Value → Sem Value} {r : R2} (h : OpR X f r) : OpS X f (fun _ => r) := fun pins s σ H x y v u Q I rx ry q => h pins s σ H x y v u Q I rx ry q
theorem OpS.or {f : Value → Value → Sem Value} {r r' : R2S} (h : OpS X f r) (h' : OpS X f r') : OpS X f (fun σ x y H Q => r σ x y H Q ∨ r' σ x y H Q) := fun pins s σ H x y v u Q I rx ry q => by
  rcases q with q | q
  · exact h pins s σ H x y v u Q I rx ry q
  · exact h' pins s σ H x y v u Q I rx ry q
theorem pe_opS {op : Operator} {r : R2S} (ho : OpS X (binaryOp op) r) (ha : PE X a ta) (hb : PE X b tb) : PE X (.BinOp a op b pos) (tOpS r ta tb) :=
  ⟨fun pins s σ H Q I h => wpAny_BinOp (binT ha hb I h fun v u s2 x y H2 I2 rx ry q => ho pins s2 σ H2 x y v u Q I2 rx ry q)⟩
theorem pe_cmpS {op : CmpOp} {r : R2S} (ho : OpS X (compareOp op) r) (ha : PE X a ta) (hb : PE X b tb) (hm : behindInMarks op b = false) : PE X (.Compare a [op] [b] pos) (tOpS r ta tb) :=
  ⟨fun pins s σ H Q I h => wpAny_Compare1 (binT ha hb I h fun v u s2 x y H2 I2 rx ry q => ho pins s2 σ H2 x y v u Q I2 rx ry q) hm⟩
theorem pt_cmpS {op : CmpOp} {r : R2S} (ho : OpS X (compareOp op) r) (ha : PE X a ta) (hb : PE X b tb) (hm : behindInMarks op b = false) : PT X (.Compare a [op] [b] pos) (tTest (tOpS r ta tb)) := by
  refine ⟨fun pins s σ H Q I h => wpAny_isTrue_Compare1 (thn (ha.run pins s σ H _ I h) fun v s1 ⟨x, H1, I1, r1, q1⟩ => thn (hb.run pins s1 σ H1 _ I1 q1) fun u s2 ⟨y, H2, I2, r2, q2⟩ =>
    thn (ho pins s2 σ H2 x y v u _ I2 r1 r2 q2) fun c s3 hz => ?_) hm⟩
  obtain ⟨z, H3, I3, r3, k, e, q3⟩ := hz
  subst e
  cases r3
  exact wpAny_truthy_bool ⟨H3, I3, q3⟩
def UnS (X : Cx) (f : Value → Sem Value) (r : L2.St → V → Hp → VK → Prop) : Prop :=
  ∀ (pins : List (Addr × Obj)) (s : Shared) (σ : L2.St) (H : Hp) (x : V) (v : Value) (Q : VK), L2.Inv X pins σ H s → RelV x v → r σ x H Q → wpAny (model X.prog X.w) X.A (f v) (EP X pins σ Q) X.xe s
def tUnS (r : L2.St → V → Hp → VK → Prop) (ta : TE) : TE := fun σ H Q => ta σ H fun x H1 => r σ x H1 Q
theorem UnS.of {f : Value → Sem Value} {r : V → Hp → VK → Prop} (h : UnR X f r) : UnS X f (fun _ => r) := fun pins s σ H x v Q I rx q => h pins s σ H x v Q I rx q
theorem pe_unS {op : UnaryOp} {r : L2.St → V → Hp → VK → Prop} (ho : UnS X (unaryOp op) r) (ha : PE X a ta) : PE X (.UnaryOp op a pos) (tUnS r ta) :=
  ⟨fun pins s σ H Q I h => UnaryOp_ (thn (ha.run pins s σ H _ I h) fun v s1 ⟨x, H1, I1, r1, q1⟩ => ho pins s1 σ H1 x v Q I1 r1 q1)⟩
/-- a call of a built-in by values, with the slots -/
def CallS (X : Cx) (f : Value) (r : L2.St → List V → Hp → VK → Prop) : Prop :=
  ∀ (pins : List (Addr × Obj)) (s : Shared) (σ : L2.St) (H : Hp) (xs : List V) (us : List Value) (Q : VK), L2.Inv X pins σ H s → Vals xs us → r σ xs H Q → wpAny (model X.prog X.w) X.A (call f us) (EP X pins σ Q) X.xe s
def tCBS (r : L2.St → List V → Hp → VK → Prop) (t : TA) : TE := fun σ H Q => t σ H fun vs H1 => r σ vs H1 Q
theorem CallS.of {f : Value} {r : List V → Hp → VK → Prop} (h : CallR X f r) : CallS X f (fun _ => r) := fun pins s σ H xs us Q I rx q => h pins s σ H xs us Q I rx q
theorem CallS.or {f : Value} {r r' : L2.St → List V → Hp → VK → Prop} (h : CallS X f r) (h' : CallS X f r') : CallS X f (fun σ xs H Q => r σ xs H Q ∨ r' σ xs H Q) := fun pins s σ H xs us Q I rx q => by
  rcases q with q | q
  · exact h pins s σ H xs us Q I rx q
  · exact h' pins s σ H xs us Q I rx q
theorem pe_callBS {id : String} {r : L2.St → List V → Hp → VK → Prop} (hc : CallS X (.builtin id) r) (hm : X.mg x = none) (hv : bootBuiltins x = some (.builtin id)) (ha : PA X (e :: es) t) (hg : Gl X x := by rfl) (hn : x ≠ "__name__" := by decide) (hdb : (x == ("__debug__" : Str)) = false := by decide)
    (he : starEach (e :: es) X.env = (false, eval e X.env) :: starEach es X.env := by rfl) (hpl : (backTo pos (starEach es X.env)).any (·.1) = false := by rfl) : PE X (.Call (.Name x p) (e :: es) [] pos) (tCBS r t) :=
  ⟨fun pins s σ H Q I h => wpAny_Call_Name_kw (ld_blt I hg hm hv (PyProof.Rows.callWith_builtin1 (thn (ha.run pos pins s σ H _ I h) fun us s1 ⟨vs, H1, I1, r1, q1⟩ => hc pins s1 σ H1 vs us Q I1 r1 q1) he hpl) hn hdb)⟩
theorem pe_callTS {T : String} {r : L2.St → List V → Hp → VK → Prop} (hc : CallS X (.type T) r) (hm : X.mg x = none) (hv : bootBuiltins x = some (.type T)) (ha : PA X (e :: es) t) (hg : Gl X x := by rfl) (hn : x ≠ "__name__" := by decide) (hdb : (x == ("__debug__" : Str)) = false := by decide)
    (he : starEach (e :: es) X.env = (false, eval e X.env) :: starEach es X.env := by rfl) (hpl : (backTo pos (starEach es X.env)).any (·.1) = false := by rfl) : PE X (.Call (.Name x p) (e :: es) [] pos) (tCBS r t) :=
  ⟨fun pins s σ H Q I h => wpAny_Call_Name_kw (ld_blt I hg hm hv (PyProof.Rows.callWith_type1 (thn (ha.run pos pins s σ H _ I h) fun us s1 ⟨vs, H1, I1, r1, q1⟩ => hc pins s1 σ H1 vs us Q I1 r1 q1) he hpl) hn hdb)⟩

/-! ### own operators -/
theorem inst_of {pins : List (Addr × Obj)} {σ : L2.St} {H : Hp} {s : Shared} {a dx : Addr} {fs : List (Str × V)} (I : L2.Inv X pins σ H s) (ea : H a = some (.ins C dx fs)) : ∃ ox od, PySem.W.InstAt s.heap a ox C od := by
  obtain ⟨mA, J, _⟩ := ins_get I.hok ea
  obtain ⟨od, J, _⟩ := J.look
  exact ⟨_, _, J⟩
theorem cmpBack_ep {pins : List (Addr × Obj)} {σ : L2.St} {Q : VK} {u : Value} {s' : Shared} (h : EP X pins σ Q u s') : PySem.W.CmpBack (EP X pins σ Q) u s' := by
  obtain ⟨v, H', I, r, q⟩ := id h
  cases v with
  | non => cases (show u = _ from r); exact h
  | bl b => cases (show u = _ from r); exact h
  | int i => obtain ⟨t, e⟩ := (show ∃ t, u = Value.int i t from r); cases e; exact h
  | str i => obtain ⟨t, e⟩ := (show ∃ t, u = Value.str i t from r); cases e; exact h
  | byt i => obtain ⟨t, e⟩ := (show ∃ t, u = Value.bytes i t from r); cases e; exact h
  | flt i => obtain ⟨t, e⟩ := (show ∃ t, u = Value.float i t from r); cases e; exact h
  | ref a => cases (show u = _ from r); exact h
  | ty a => cases (show u = _ from r); exact h

/-- x op y, both instances of the class at C -/
def rOwn (C : Addr) (sp : Sp) (E : L2.St → XK) : R2S := fun σ x y H Q => ∃ a dx fs b dy gs, x = .ref a ∧ H a = some (.ins C dx fs) ∧ y = .ref b ∧ H b = some (.ins C dy gs) ∧ sp [.ref a, .ref b] H Q (E σ)
theorem op_own {op : Operator} (S : Sm X.prog X.w X.K X.mg X.base C (PySem.dunder op.info.2) k ps sp) (hr : Room k X.A) (hx : Ps X E) (hc : PySem.W.selfFirst X.K C = true) : OpS X (binaryOp op) (rOwn C sp E) := by
  intro pins s σ H x y v u Q I rx ry hq
  obtain ⟨f, fd, F, hs, hf, hb⟩ := S.ex
  obtain ⟨a, dx, fs, b, dy, gs, rfl, ha, rfl, hb', q⟩ := hq
  cases rx
  cases ry
  obtain ⟨_, _, J⟩ := inst_of I ha
  obtain ⟨_, _, J'⟩ := inst_of I hb'
  obtain ⟨m, hF⟩ := I.fr
  refine PySem.W.binop_K hF I.ok.mod.kin J J'.type hc hs hf ?_
  exact thn (run_at0 (vs := [.ref a, .ref b]) F hr rfl hb (hx σ) I (.cons rfl (.cons rfl .nil)) q) fun _ _ z => cmpBack_ep z
/-- what the walk asks of a built-in type at the right of an own operator -/
structure RightT (K : PySem.W.Frag) (C : Addr) (T nm : String) : Prop where
  r1 : ∃ fo, PySem.W.findIn K (.type T) (PySem.dunder nm) = some fo
  r2 : ∃ ro, PySem.W.findIn K (.type T) (dunderR nm) = some ro
  rc : ∃ rc, PySem.W.findIn K (.ref C) (dunderR nm) = some rc ∧ (rc = none ∨ ∃ g : Addr, rc = some (.ref g))
  sub : PySem.W.subIn K (.type T) (.ref C) = some false
/-- x op y, y an int -/
def rOwnI (C : Addr) (sp : Sp) (E : L2.St → XK) : R2S := fun σ x y H Q => ∃ a dx fs i, x = .ref a ∧ H a = some (.ins C dx fs) ∧ y = .int i ∧ sp [.ref a, .int i] H Q (E σ)
theorem op_ownI {op : Operator} (S : Sm X.prog X.w X.K X.mg X.base C (PySem.dunder op.info.2) k ps sp) (hr : Room k X.A) (hx : Ps X E) (hc : PySem.W.selfFirst X.K C = true) (hi : RightT X.K C "int" op.info.2) : OpS X (binaryOp op) (rOwnI C sp E) := by
  intro pins s σ H x y v u Q I rx ry hq
  obtain ⟨f, fd, F, hs, hf, hb⟩ := S.ex
  obtain ⟨a, dx, fs, i, rfl, ha, rfl, q⟩ := hq
  cases rx
  obtain ⟨t, rfl⟩ := (show ∃ t, u = Value.int i t from ry)
  obtain ⟨_, _, J⟩ := inst_of I ha
  obtain ⟨m, hF⟩ := I.fr
  obtain ⟨fo, h1⟩ := hi.r1
  obtain ⟨ro, h2⟩ := hi.r2
  obtain ⟨rc, h3, h4⟩ := hi.rc
  refine PySem.W.ksp_binT hF I.ok.mod.kin J (T := "int") rfl hc hs hf h3 h4 h1 h2 hi.sub ?_
  exact thn (run_at0 (vs := [.ref a, .int i]) F hr rfl hb (hx σ) I (.cons rfl (.cons ⟨t, rfl⟩ .nil)) q) fun _ _ z => cmpBack_ep z
/-- x == y by the text's own ==, y an instance of the same class -/
theorem op_ownEq (S : Sm X.prog X.w X.K X.mg X.base C "__eq__" k ps sp) (hr : Room k X.A) (hx : Ps X E) : OpS X (compareOp .Eq) (rOwn C sp E) := by
  intro pins s σ H x y v u Q I rx ry hq
  obtain ⟨f, fd, F, hs, hf, hb⟩ := S.ex
  obtain ⟨a, dx, fs, b, dy, gs, rfl, ha, rfl, hb', q⟩ := hq
  cases rx
  cases ry
  obtain ⟨_, _, J⟩ := inst_of I ha
  obtain ⟨_, _, J'⟩ := inst_of I hb'
  obtain ⟨m, hF⟩ := I.fr
  show wpAny (model X.prog X.w) X.A (richCompare .Eq _ _) (EP X pins σ Q) X.xe s
  refine PySem.W.cmp_K (op := .Eq) (tb := .ref C) hr.units0 hF I.ok.mod.kin J J'.type (by simp [PySem.W.notFirst]) hs hf ?_
  exact thn (run_at0 (vs := [.ref a, .ref b]) F hr rfl hb (hx σ) I (.cons rfl (.cons rfl .nil)) q) fun _ _ z => cmpBack_ep z
/-- y in x by the text's own __contains__, which gives a bool -/
def rOwnIn (C : Addr) (sp : Sp) (E : L2.St → XK) : R2S := fun σ y x H Q => ∃ a dx fs, x = .ref a ∧ H a = some (.ins C dx fs) ∧ sp [.ref a, y] H (fun v H' => ∃ c, v = .bl c ∧ Q (.bl c) H') (E σ)
theorem op_ownIn (S : Sm X.prog X.w X.K X.mg X.base C "__contains__" k ps sp) (hr : Room k X.A) (hx : Ps X E) : OpS X (compareOp .In) (rOwnIn C sp E) := by
  intro pins s σ H y x v u Q I ry rx hq
  obtain ⟨f, fd, F, hs, hf, hb⟩ := S.ex
  obtain ⟨a, dx, fs, rfl, ha, q⟩ := hq
  cases rx
  obtain ⟨_, _, J⟩ := inst_of I ha
  obtain ⟨m, hF⟩ := I.fr
  refine PySem.W.in_K hF I.ok.mod.kin J hs hf ?_
  refine thn (run_at0 (vs := [.ref a, y]) F hr rfl hb (hx σ) I (.cons rfl (.cons ry .nil)) q) fun r s' z => ?_
  obtain ⟨w', H', I', rw', c, ec, q'⟩ := z
  subst ec
  cases rw'
  exact wpAny_truthy_bool ⟨.bl c, H', I', rfl, q'⟩
/-- -x by the text's own __neg__ -/
def rOwn1 (C : Addr) (sp : Sp) (E : L2.St → XK) : L2.St → V → Hp → VK → Prop := fun σ x H Q => ∃ a dx fs, x = .ref a ∧ H a = some (.ins C dx fs) ∧ sp [.ref a] H Q (E σ)
theorem un_own (S : Sm X.prog X.w X.K X.mg X.base C "__neg__" k ps sp) (hr : Room k X.A) (hx : Ps X E) : UnS X (unaryOp .USub) (rOwn1 C sp E) := by
  intro pins s σ H x v Q I rx hq
  obtain ⟨f, fd, F, hs, hf, hb⟩ := S.ex
  obtain ⟨a, dx, fs, rfl, ha, q⟩ := hq
  cases rx
  obtain ⟨_, _, J⟩ := inst_of I ha
  obtain ⟨m, hF⟩ := I.fr
  refine PySem.W.ksp_neg hF I.ok.mod.kin J hs hf ?_
  exact run_at0 (vs := [.ref a]) F hr rfl hb (hx σ) I (.cons rfl .nil) q
/-- abs(x) by the text's own __abs__ -/
def rOwnC (C : Addr) (sp : Sp) (E : L2.St → XK) : L2.St → List V → Hp → VK → Prop := fun σ xs H Q => ∃ a dx fs, xs = [.ref a] ∧ H a = some (.ins C dx fs) ∧ sp [.ref a] H Q (E σ)
theorem call_ownAbs (S : Sm X.prog X.w X.K X.mg X.base C "__abs__" k ps sp) (hr : Room (k + 1) X.A) (hx : Ps X E) : CallS X (.builtin "abs") (rOwnC C sp E) := by
  intro pins s σ H xs us Q I r hq
  obtain ⟨f, fd, F, hs, hf, hb⟩ := S.ex
  obtain ⟨a, dx, fs, rfl, ha, q⟩ := hq
  obtain ⟨u, rfl, rx⟩ := vals1 r
  cases rx
  obtain ⟨_, _, J⟩ := inst_of I ha
  obtain ⟨m, hF⟩ := I.fr
  refine PySem.Calls.call_function_entry kind_abs plain_abs entry_abs (args_abs _) ?_
  unfold Builtin.«abs»
  refine wpAny_bind (m := oneArg "abs" _) (wpAny_pure ?_)
  refine wpAny_bind (m := callSpecial? (.ref a) (Str.ofString "__abs__")) (PySem.W.special_fn I.kIn J hs (beq_iff_eq.mp hf) (wpAny_mono (run_at0 (vs := [.ref a]) F hr.in1 rfl hb (hx σ) I (.cons rfl .nil) q) (fun r s' hr => ?_) fun _ _ y => y))
  exact wpAny_pure ⟨_, rfl, hr⟩
/-- len(x) by the text's own __len__ -/
def rOwnLen (C : Addr) (sp : Sp) (E : L2.St → XK) : L2.St → List V → Hp → VK → Prop := fun σ xs H Q => ∃ a dx fs, xs = [.ref a] ∧ H a = some (.ins C dx fs) ∧ sp [.ref a] H (fun v H' => ∃ n : Int, v = .int n ∧ 0 ≤ n ∧ n < 2 ^ 63 ∧ Q (.int n) H') (E σ)
theorem call_ownLen (S : Sm X.prog X.w X.K X.mg X.base C "__len__" k ps sp) (hr : Room (k + 1) X.A) (hx : Ps X E) : CallS X (.builtin "len") (rOwnLen C sp E) := by
  intro pins s σ H xs us Q I r hq
  obtain ⟨f, fd, F, hs, hf, hb⟩ := S.ex
  obtain ⟨a, dx, fs, rfl, ha, q⟩ := hq
  obtain ⟨u, rfl, rx⟩ := vals1 r
  cases rx
  obtain ⟨_, _, J⟩ := inst_of I ha
  obtain ⟨m, hF⟩ := I.fr
  refine PySem.W.len_K hF I.ok.mod.kin J hs hf ?_
  refine thn (run_at0 (vs := [.ref a]) F hr.in1 rfl hb (hx σ) I (.cons rfl .nil) q) fun r s' z => ?_
  obtain ⟨v, H', I', rv, n, rfl, h0, h1, q'⟩ := z
  obtain ⟨t, rfl⟩ := (show ∃ t, r = Value.int n t from rv)
  exact ⟨⟨h0, h1⟩, .int n, H', I'.tok _, ⟨_, rfl⟩, q'⟩
/-- the truth of x by the text's own __bool__ -/
theorem truthy_own {A : Around} {pins : List (Addr × Obj)} {σ : L2.St} {H : Hp} {s : Shared} {Q : Bool → Hp → Prop} {a dx : Addr} {fs : List (Str × V)} (S : Sm X.prog X.w X.K X.mg X.base C "__bool__" k ps sp) (hr : Room k A) (fr : A.frames = X.A.frames) (hx : Ps X E)
    (I : L2.Inv X pins σ H s) (ha : H a = some (.ins C dx fs)) (q : sp [.ref a] H (fun v H' => ∃ c, v = .bl c ∧ Q c H') (E σ)) : wpAny (model X.prog X.w) A (truthy (.ref a)) (TP X pins σ Q) X.xe s := by
  obtain ⟨f, fd, F, hs, hf, hb⟩ := S.ex
  obtain ⟨_, _, J⟩ := inst_of I ha
  obtain ⟨m, hF⟩ := I.fr
  refine PySem.W.truthy_K hF I.ok.mod.kin J hs hf ?_
  refine thn (run_at0 (vs := [.ref a]) F hr fr hb (hx σ) I (.cons rfl .nil) q) fun r s' z => ?_
  obtain ⟨v, H', I', rv, c, rfl, q'⟩ := z
  cases (show r = _ from rv)
  exact ⟨H', I', q'⟩
/-- bool(x) -/
def rOwnB (C : Addr) (sp : Sp) (E : L2.St → XK) : L2.St → List V → Hp → VK → Prop := fun σ xs H Q => ∃ a dx fs, xs = [.ref a] ∧ H a = some (.ins C dx fs) ∧ sp [.ref a] H (fun v H' => ∃ c, v = .bl c ∧ Q (.bl c) H') (E σ)
theorem call_ownBool (S : Sm X.prog X.w X.K X.mg X.base C "__bool__" k ps sp) (hr : Room (k + 2) X.A) (hx : Ps X E) : CallS X (.type "bool") (rOwnB C sp E) := by
  intro pins s σ H xs us Q I r hq
  obtain ⟨a, dx, fs, rfl, ha, q⟩ := hq
  obtain ⟨u, rfl, rx⟩ := vals1 r
  cases rx
  refine callType_newIn PySem.F.called_bool PySem.F.newNe_bool (PySem.F.typeCall_bool_1 _) (PySem.F.newCall_bool_1 _) (fun obj => PySem.F.args_object_init_2 obj _) PySem.F.entry_bool_new
    (S := fun A' R s' => A' = X.A.in1 ∧ s' = s ∧ R = wants (fun obj s₁ => s₁.TypeIs obj "bool" ∧ EP X pins σ Q obj s₁) X.xe) ?_ ⟨rfl, rfl, rfl⟩
  intro A' R s' h'
  obtain ⟨rfl, rfl, rfl⟩ := h'
  have f1 := PySem.F.conv_sub_bool
  unfold Builtin.«bool.__new__»
  have key := truthy_own (A := X.A.in1.in1) (Q := fun c H' => Q (.bl c) H') S (hr.in1.in1) rfl hx I ha q
  have key' : ∀ Q' : Bool → Shared → Prop, (∀ c s2, TP X pins σ (fun c H' => Q (.bl c) H') c s2 → Q' c s2) → wpAny (model X.prog X.w) X.A.in1.in1 (truthy (Value.ref a)) Q' X.xe s' := fun Q' h => thn key h
  have k2 : ∀ c s2, TP X pins σ (fun c H' => Q (.bl c) H') c s2 → (s2.TypeIs (.bool c) "bool" ∧ EP X pins σ Q (.bool c) s2) := fun c s2 z => by
    obtain ⟨H', I', q'⟩ := z
    exact ⟨rfl, .bl c, H', I', rfl, q'⟩
  clear key q I ha hx r
  obtain ⟨hp, g, d, tk, os⟩ := s'
  refine wpAny_bind ?_
  repeat (any_goals (first | assumption | ((with_reducible show wpAny _ _ (truthy _ >>= _) _ _ _); refine wpAny_bind (key' _ fun c s2 z => ?_)) | wp_step))
  all_goals exact k2 _ _ z
end
end GG

/-! GX: the text's errors (classes under GangError, whose __init__ stores the subject): raised, caught, asked. -/
namespace PySem
namespace GErr
open PySem.W PySem.Calls PyProof.Rows PySem.HandSPX
def iA (p1 p2 : Pos) : Arguments := { posonlyargs := [], args := [{ arg := "self", annotation := none, pos := p1 }, { arg := "subject", annotation := none, pos := p2 }], vararg := none, kwonlyargs := [], kw_defaults := [], kwarg := none, defaults := [] }
def iB (q1 q2 q3 q4 : Pos) : List Stmt := [.Assign [.Attribute (.Name "self" q1) "subject" q2] (.Name "subject" q3) q4]
def iS : Scope := { kind := .function, names := [(PySem.Str.ofString "self", .local), (PySem.Str.ofString "subject", .local)], isGenerator := false, isCoroutine := false, more := [] }
/-- what the written part says of the error class x, at C, whose __init__ is GangError's, at fI -/
structure ErrTxt (K : Frag) (mg : Str → Option Value) (x : Str) (C fI : Addr) : Prop where
  gC : mg x = some (.ref C)
  cls : ∃ nm q N bs bm sn sub ab col dd k0 k1 k2 k3 k5, K.lookup C = some (excClassObj nm q C N bs bm true sn sub ab col dd k0 k1 k2 k3 k5 "ValueError.__new__") ∧ refsVE bm = true
  sa : findIn K (.ref C) "__setattr__" = some (some (.builtin "object.__setattr__"))
  ga : findIn K (.ref C) "__getattribute__" = some (some (.builtin "BaseException.__getattribute__"))
  gg : findIn K (.ref C) "__getattr__" = some none
  noN : findIn K (.ref C) "subject" = some none
  iC : findIn K (.ref C) "__init__" = some (some (.ref fI))
  tC : typeIn K (.ref fI) = some (.type "function")
  kC : keepIn K (.ref C) = true
  exC : subIn K (.ref C) (.type "BaseException") = some true
  tyC : typeIn K (.ref C) = some (.type "type")
  hdC : hasDictIn K C = true
  haC : findIn K (.ref C) "__class__" = some (some (.builtin "object.__class__"))
  hnC : specialIn K (.builtin "object.__class__") "__get__" = some (some (.builtin "getset_descriptor.__get__"))
  htC : takesIn K (.builtin "object.__class__") = some true
  hmC : mroIn K C (.type "object") = some true
  fn : ∃ (oc : Value) (od : Option Addr) (doc pm : Value) (an : Option Addr) (cdv ct : Value) (osl : Array (Option Value)) (p1 p2 q1 q2 q3 q4 : Pos),
    K.lookup fI = some ⟨oc, od, .func (fnOf "__init__" "GangError.__init__" (iA p1 p2) (iB q1 q2 q3 q4) iS .none .none doc pm an cdv ct), osl⟩ ∧ codeIn K cdv "GangError.__init__" = true
theorem one_size (v : Value) : [v].length ≤ sizeLine := by
  rw [sizeLine_eq]
  exact (by decide : 1 ≤ 16777216)
theorem ldC {M : Model} {s : Shared} {name : Str} {scope : Scope} {L a : Addr} {cd : Value} {m : Str → Option Value} {x : Str} {pos : Pos} {v : Value} {Q : Value → Shared → Prop} {A : Around} {E : Value → Shared → Prop} (hn : s.heap.Ns L m) (hv : m x = some v) (h : Q v s)
    (hk : scope.kind = .function := by rfl) (hl : (envOfC name scope L a cd).kindOf x = some .local := by rfl) (hd : (x == ("__debug__" : Str)) = false := by decide) :
    wpAny M A (eval (.Name x pos) (envOfC name scope L a cd)) Q E s := wpAny_Name (wpAny_loadName_local hk hl hn hv h) hd
/-- what __init__ leaves of a fresh exception at x -/
structure InitEnd (h h' : Heap) (x C dx t1 : Addr) (v : Value) : Prop where
  keep : ∀ b o, b ≠ x → h.get? b = some o → h'.get? b = some o
  obj : h'.get? x = some { cls := .ref C, dict := some dx, data := .fields #[.ref t1, .none, .none, .none, .bool false, .none] }
  dbig : h.objs.size ≤ dx
  dne : dx ≠ x
  ns : h'.Ns1 dx (fun y => if y = "subject" then some v else none)
/-- a made error -/
structure OwnMade (h h' : Heap) (e C d : Addr) (v : Value) : Prop where
  keep : ∀ b o, h.get? b = some o → h'.get? b = some o
  new : h.objs.size ≤ e
  obj : ∃ oe vs, h'.get? e = some oe ∧ oe.cls = .ref C ∧ oe.dict = some d ∧ oe.data = .fields vs ∧ vs[1]? = some .none ∧ vs[2]? = some .none
  dbig : h.objs.size ≤ d
  dne : d ≠ e
  ns : h'.Ns1 d (fun y => if y = "subject" then some v else none)
section
variable {prog : Program} {w : World} {A : Around} {E : Value → Shared → Prop} {R : Result → Shared → Prop} {s : Shared} {K : Frag} {mg : Str → Option Value} {xn : Str} {C fI : Addr}
theorem err_init (T : ErrTxt K mg xn C fI) {x t0 : Addr} {v : Value} (X : K.In s.heap) (hlim : s.heap.NoLimit) (hx : s.heap.get? x = some (excO C t0)) (hnx : K.lookup x = none) (hroom : A.depth < recursionLimit)
    (hq : ∀ h' tk dx, InitEnd s.heap h' x C dx t0 v → R (.ok (.ret .none)) { s with heap := h', toks := tk }) :
    codeAny (model prog w) A (.call (.ref fI) ⟨[.ref x, v], []⟩) R s := by
  obtain ⟨oc, od, doc, pm, an, cdv, ct, osl, p1, p2, q1, q2, q3, q4, ho, hcd⟩ := T.fn
  obtain ⟨nm, q, N, bs, bm, sn, sub, ab, col, dd, k0, k1, k2, k3, k5, hC, hbm⟩ := T.cls
  have hcl : clsIn K C = some { name := nm, bases := bs, mro := .ref C :: bm, ns := N, qualname := q, hasDict := true, slotNames := sn, subclasses := sub, abstract := ab, collection := col, hasDel := false } := by unfold clsIn; rw [hC] <;> rfl
  refine Att.call_fn (binds := [("self", .ref x), ("subject", v)]) X hlim ho hcd hroom (BindsTo.of_eq (by first | rfl | with_unfolding_all rfl)) (by first | rfl | decide | with_unfolding_all rfl) (fun s₁ IC => ?_) rfl rfl rfl
  obtain ⟨h₁, tk₁, rfl⟩ := IC.toInCall.same
  have k : ∀ b o, s.heap.get? b = some o → h₁.get? b = some o := IC.toInCall.keep
  have hn := IC.toInCall.ns
  have hxL : s.heap.objs.size ≠ x := Nat.ne_of_gt (Heap.lt_size hx)
  have X₁ : K.In h₁ := X.keeps k
  have hx₁ := k _ _ hx
  show wpAny _ _ (execs _ _) _ _ _
  refine wpAny_execs_cons (plainObj_wpAny_Assign_Attribute ?_)
  refine ldC (v := v) hn (by first | rfl | with_unfolding_all rfl | kernel_rfl) (ldC (v := .ref x) hn (by first | rfl | with_unfolding_all rfl | kernel_rfl) ?_)
  refine set_plain X₁ (ox := excO C t0) (od := none) ⟨hx₁, rfl, rfl, trivial⟩ T.sa ?_
  refine exc_osa X₁ hx₁ hcl (show refsVE (.ref C :: bm) = true from hbm) rfl T.noN (fun h₃ tk₃ dx k₃ dn dne hx₃ hn₃ => ?_)
  show wpAny _ _ (execs _ _) _ _ _
  have z : s.heap.objs.size < h₁.objs.size := hn.lt
  exact wpAny_execs_nil (hq h₃ tk₃ dx ⟨fun b o hb e => k₃ b o hb (k b o e), hx₃, Nat.le_of_lt (Nat.lt_of_lt_of_le z dn), dne, hn₃⟩)
theorem err_made (T : ErrTxt K mg xn C fI) {v : Value} (X : K.In s.heap) (hlim : s.heap.NoLimit) (hroom : A.depth + 1 < recursionLimit)
    (hq : ∀ h' tk e d, OwnMade s.heap h' e C d v → R (.ok (.ret (.ref e))) { s with heap := h', toks := tk }) :
    codeAny (model prog w) A (.call (.ref C) ⟨[v], []⟩) R s := by
  obtain ⟨nm, q, N, bs, bm, sn, sub, ab, col, dd, k0, k1, k2, k3, k5, hC, hbm⟩ := T.cls
  obtain ⟨hp, g, dr, tk, os⟩ := s
  have k : ∀ b o, hp.get? b = some o → ((hp.push (kdv_tup [v])).push (excO C hp.objs.size)).get? b = some o := fun b o e => Heap.get?_push_of_some _ (Heap.get?_push_of_some _ e)
  have hget : ((hp.push (kdv_tup [v])).push (excO C hp.objs.size)).get? (hp.objs.size + 1) = some (excO C hp.objs.size) := by heap_get
  have hnx : K.lookup (hp.objs.size + 1) = none := by
    cases e : K.lookup (hp.objs.size + 1) with
    | none => rfl
    | some o =>
      have z : hp.get? (hp.objs.size + 1) = some o := X _ _ e
      exact absurd (Nat.lt_of_succ_lt (Heap.lt_size z)) (Nat.lt_irrefl _)
  refine call_own F.excBase_ValueError (fun X => refsVE_contains X bm hbm) (X _ _ hC) (looks_findIn X T.iC) (fun self => bind_fn X self T.tC) (one_size v) ?_
  refine err_init (s := ⟨(hp.push (kdv_tup [v])).push (excO C hp.objs.size), g, dr, tk, os⟩) T (X.keeps k) (hlim.keeps k) hget hnx ?_ fun h' tk' dx ⟨k', hx, dn, dne, hns⟩ => ?_
  · show A.depth + 1 < recursionLimit
    exact hroom
  · have old : ∀ b o, hp.get? b = some o → h'.get? b = some o := fun b o e => k' b o (Nat.ne_of_lt (Nat.lt_succ_of_lt (Heap.lt_size e))) (k b o e)
    have z : hp.objs.size + 1 + 1 ≤ dx := by
      first
        | (simpa only [Heap.size_push] using dn)
        | exact dn
        | (have q := dn; rw [Heap.size_push, Heap.size_push] at q; exact q)
    exact ⟨rfl, hq h' tk' (hp.objs.size + 1) dx ⟨old, Nat.le_succ _, ⟨_, _, hx, rfl, rfl, rfl, rfl, rfl⟩, Nat.le_trans (Nat.le_trans (Nat.le_succ _) (Nat.le_succ _)) z, dne, hns⟩⟩
end
end GErr
end PySem
namespace GG
open PySem L2 PyProof.Rows
abbrev subj (v : V) : List (Str × V) := [(("subject" : Str), v)]
theorem relO_subj {v : V} {v' : Value} (r : RelV v v') (f : Str) : RelO (List.lookup f (subj v)) (if f = "subject" then some v' else none) := by
  by_cases hw : f = "subject"
  · subst hw
    rw [if_pos rfl]
    have q : List.lookup ("subject" : Str) (subj v) = some v := by simp [List.lookup]
    rw [q]
    exact r
  · rw [if_neg hw]
    have qw : (f == ("subject" : Str)) = false := by simpa using hw
    have q2 : List.lookup f (subj v) = none := by simp [List.lookup, qw]
    rw [q2]
    trivial
section
variable {X : Cx} {C fI : Addr} {xn : Str}
/-- Err(e) -/
def tMkErr (C : Addr) (ta : TA) : L2.St → Hp → XK → Prop := fun σ H Q => ta σ H fun vs H1 => ∃ v, vs = [v] ∧ ∀ d, H1 d = none → Q (.ref C) (some d) (upd H1 d (.xd (subj v)))
theorem pmk_err {a : Expr} {ta : TA} {p pos : Pos} {k : Nat} (T : PySem.GErr.ErrTxt X.K X.mg xn C fI) (hr : Room k X.A) (ha : PA X [a] ta) (hg : Gl X xn := by rfl) (hdb : (xn == ("__debug__" : Str)) = false := by decide)
    (he : starEach (a :: []) X.env = (false, eval a X.env) :: starEach [] X.env := by rfl) (hpl : (backTo pos (starEach [] X.env)).any (·.1) = false := by rfl) :
    L2N.PMk X (.Call (.Name xn p) [a] [] pos) (tMkErr C ta) := by
  intro pins s σ H Q I h
  refine wpAny_Call_Name_kw (ld_glob I hg T.gC ?_ hdb)
  refine PySem.W.callWith_K (h₀ := X.base) I.ok.mod.kin T.kC (thn (ha.run pos pins s σ H _ I h) fun us s1 hh => ?_) he hpl
  obtain ⟨vs, H1, I1, r1, v, ev, q1⟩ := hh
  subst ev
  refine ⟨I1.kIn, ?_⟩
  cases r1 with
  | cons rv rn =>
    rename_i v' us'
    cases rn
    show wpAny _ _ (call (.ref C) [v']) _ _ _
    have hlim := I1.nolimit
    obtain ⟨hp, g, dr, tk, os⟩ := s1
    refine wpAny_call (PySem.GErr.err_made T I1.kIn hlim (by have := hr.dp; omega) fun h' tk' e d M => ?_)
    show L2N.MkP X pins σ Q (.ref e) ⟨h', g, dr, tk', os⟩
    obtain ⟨oe, fv, hoe, hc, hd, hdat, h1, h2⟩ := M.obj
    have hns := M.ns
    obtain ⟨G', g1, g2⟩ := restrict h' fun b => decide (b ≠ e)
    have gk : ∀ b, b ≠ e → G'.get? b = h'.get? b := fun b hb => g1 b (decide_eq_true hb)
    have ge : G'.get? e = none := g2 e (by simp)
    have old : ∀ b o, hp.get? b = some o → G'.get? b = some o := fun b o q => (gk b (Nat.ne_of_lt (Nat.lt_of_lt_of_le (Heap.lt_size q) M.new))).trans (M.keep b o q)
    have ob : ObjOk X.prog X.w (upd H1 d (.xd (subj v))) G' d (.xd (subj v)) :=
      ⟨_, hns.at (fun o q => (gk d M.dne).trans q), fun f => relO_subj rv f⟩
    have J : L2.Inv X pins σ (upd H1 d (.xd (subj v))) ⟨G', g, dr, tk', os⟩ := I1.laid (t' := tk') old M.dbig ob
    refine ⟨e, oe, fv, ⟨G', g, dr, tk', os⟩, _, .ref C, some d, rfl, J, fun b o q => ?_, ge, hoe, ⟨hc, hd, fun vs e => by rw [hdat] at e; cases e; exact h2⟩, hdat, h1, ?_, rfl, I1.bare, raises_own T.exC T.tyC, q1 d (I1.hok.fresh M.dbig)⟩
    · by_cases hb : b = e
      · have q' : G'.get? b = some o := q
        rw [hb, ge] at q'; cases q'
      · exact (gk b hb).symm.trans q
    · rw [upd_ne (Ne.symm M.dne)]
      exact I1.hok.fresh M.new
/-- raise Err(e) -/
def tRaiseErr (C : Addr) (W : WX) (ta : TA) : TS := fun _ σ H => tMkErr C ta σ H fun cls d H' => W cls d σ H'
theorem ps_raiseErr {a : Expr} {ta : TA} {W : WX} {p pos pos2 : Pos} {k : Nat} (T : PySem.GErr.ErrTxt X.K X.mg xn C fI) (hr : Room k X.A) (tk : L2N.Takes X W) (ha : PA X [a] ta) (hc : X.calm = true := by rfl) (hg : Gl X xn := by rfl) (hdb : (xn == ("__debug__" : Str)) = false := by decide)
    (he : starEach (a :: []) X.env = (false, eval a X.env) :: starEach [] X.env := by rfl) (hpl : (backTo pos (starEach [] X.env)).any (·.1) = false := by rfl) :
    PS X (.Raise (some (.Call (.Name xn p) [a] [] pos)) none pos2) (tRaiseErr C W ta) := L2N.ps_raise hc tk (pmk_err T hr ha hg hdb he hpl)
/-- e.subject, e the exception that the suite holds (at a; its class cls, its dict d) -/
def tSubj (K : PySem.W.Frag) (mg : Str → Option Value) (a : Addr) (cls : Value) (d : Option Addr) (te : TE) : TE := fun σ H Q => te σ H fun x H1 => x = .ref a ∧ ∃ (n : Str) (C fI dd : Addr) (v : V), cls = .ref C ∧ PySem.GErr.ErrTxt K mg n C fI ∧ d = some dd ∧ H1 dd = some (.xd (subj v)) ∧ Q v H1
theorem pe_subj (K : PySem.W.Frag) (mg : Str → Option Value) {a : Addr} {oe : Obj} {cls : Value} {d : Option Addr} {e : Expr} {te : TE} {pos : Pos} (hz : Zc cls d oe) (hf : ∃ vs, oe.data = .fields vs) (he : PE X e te) (hp : (a, oe) ∈ X.pn := by exact List.Mem.head _)
    (hb : attributeBase e "subject" X.env (eval e X.env) = eval e X.env := by rfl) (hK : X.K = K := by rfl) (hM : X.mg = mg := by rfl) :
    PE X (.Attribute e "subject" pos) (tSubj K mg a cls d te) := by
  subst hK
  subst hM
  refine ⟨fun pins s σ H Q I h => attr_of hb (thn (he.run pins s σ H _ I h) fun u s1 hh => ?_)⟩
  obtain ⟨x, H1, I1, rx, ex, n, C, fI, dd, v, ec, T, ed, ea, q⟩ := hh
  subst ex
  obtain rfl : u = Value.ref a := rx
  subst ec
  subst ed
  obtain ⟨ha, _⟩ := I1.pin (a, oe) (List.mem_append_left _ hp)
  obtain ⟨vs, hd⟩ := hf
  have hx : ObjOk X.prog X.w H1 s1.heap dd (.xd (subj v)) := I1.hok dd _ ea
  obtain ⟨mA, hns, hr⟩ := hx
  obtain ⟨od, ho, hl⟩ := lookIn_ns hns
  have l : List.lookup ("subject" : Str) (subj v) = some v := by simp [List.lookup]
  obtain ⟨u, hu, ru⟩ := RelO.some_of (v := v) (o := mA "subject") (by rw [← l]; exact hr "subject")
  have J : PySem.W.InstAt s1.heap a oe C (some od) := ⟨ha, hz.1, by unfold PySem.W.notCls; rw [hd] <;> rfl, by rw [hz.2]; exact ho⟩
  exact HandSPX.exc_get I1.kIn J T.ga T.gg T.exC (PySem.W.findObj_own T.hdC T.noN rfl (by rw [hl, hu])) (handed_of ru) ⟨v, H1, I1.tok _, ru, q⟩
/-- isinstance(e, c), e the exception that the suite holds -/
def rIsX (K : PySem.W.Frag) (mg : Str → Option Value) (a : Addr) (cls : Value) (d : Option Addr) : List V → Hp → VK → Prop := fun xs H Q =>
  ∃ (n : Str) (C fI dd : Addr) (v : V) (c : V) (cv : Value) (b : Bool), xs = [.ref a, c] ∧ cls = .ref C ∧ PySem.GErr.ErrTxt K mg n C fI ∧ d = some dd ∧ H dd = some (.xd (subj v)) ∧ ClsV c cv ∧ PySem.W.kitOne K (.ref C) cv = some b ∧ Q (.bl b) H
theorem call_isX (K : PySem.W.Frag) (mg : Str → Option Value) {a : Addr} {oe : Obj} {cls : Value} {d : Option Addr} (hz : Zc cls d oe) (hf : ∃ vs, oe.data = .fields vs) (hp : (a, oe) ∈ X.pn := by exact List.Mem.head _) (hK : X.K = K := by rfl) (hM : X.mg = mg := by rfl) : CallR X (.builtin "isinstance") (rIsX K mg a cls d) := by
  subst hK
  subst hM
  intro pins s σ H xs us Q I r h
  obtain ⟨n, C, fI, dd, v, c, cv, b, rfl, ec, T, ed, ea, hcv, hk, q⟩ := h
  subst ec
  subst ed
  obtain ⟨u1, u2, rfl, r1, r2⟩ := vals2 r
  cases r1
  have e2 := hcv.eq r2
  subst e2
  obtain ⟨hget, _⟩ := I.pin (a, oe) (List.mem_append_left _ hp)
  obtain ⟨vs, hd⟩ := hf
  have hx : ObjOk X.prog X.w H s.heap dd (.xd (subj v)) := I.hok dd _ ea
  obtain ⟨mA, hns, hr⟩ := hx
  obtain ⟨od, ho, hl⟩ := lookIn_ns hns
  have J : PySem.W.InstAt s.heap a oe C (some od) := ⟨hget, hz.1, by unfold PySem.W.notCls; rw [hd] <;> rfl, by rw [hz.2]; exact ho⟩
  have hcl : (PySem.W.clsIn X.K C).isSome = true := by
    obtain ⟨cd, hc, _⟩ := PySem.W.any_some T.hdC
    rw [hc]
    rfl
  exact PySem.W.kia_one (PySem.W.kitx_exc (x := a) (ox := oe) (od := some od) hcl T.ga T.gg T.exC T.haC T.hnC T.htC T.hmC) I.kIn J hk (fun z => nomatch z) fun tk => ⟨.bl b, H, I.tok tk, rfl, q⟩
/-! ### try .. except C as n: suite -/
theorem pss_imp {sts : List Stmt} {t t' : TS} (h : PSs X sts t) (hi : ∀ D σ H, t' D σ H → t D σ H) : PSs X sts t' := ⟨fun pins s σ H D I q => h.run pins s σ H D I (hi D σ H q)⟩
variable {x n : Str} {c : Value} {i : Nat} {body suite : List Stmt} {b₀ : Stmt} {np pos pos' : Pos} {tb : WX → List (Addr × Obj) → (Value → Shared → Prop) → TS} {ts : Addr → Obj → Value → Option Addr → List (Addr × Obj) → TS} {Wout : WX}
def tAll (ts : Addr → Obj → Value → Option Addr → List (Addr × Obj) → TS) : Addr → Value → Option Addr → TS := fun a cls d D σ H => ∀ oe pn, ts a oe cls d pn D σ H
/-- the try with its suite, as a reading -/
def tTryAs (K : PySem.W.Frag) (c : Value) (i : Nat) (ts : Addr → Obj → Value → Option Addr → List (Addr × Obj) → TS) (Wout : WX) (tb : WX → List (Addr × Obj) → (Value → Shared → Prop) → TS) : TS := fun D σ H => ∀ pn xe, tb (wAs K c i (tAll ts) Wout D) pn xe D σ H
def tTryOnly (K : PySem.W.Frag) (c : Value) (ts : Addr → Obj → Value → Option Addr → List (Addr × Obj) → TS) (Wout : WX) (tb : WX → List (Addr × Obj) → (Value → Shared → Prop) → TS) : TS := fun D σ H => ∀ pn xe, tb (wOnly K c (tAll ts) Wout D) pn xe D σ H
theorem ps_tryAs (hN : X.N.Nodup) (hi : X.N[i]? = some n) (hc : Names X x c) (tk : L2N.Takes X Wout)
    (hb : ∀ (W : WX) (pn : List (Addr × Obj)) (xe : Value → Shared → Prop), L2N.Takes (X.tr pn xe) W → PassesOwn (model X.prog X.w) X.A X.env xe → PSs (X.tr pn xe) body (tb W pn xe))
    (hsu : ∀ (a : Addr) (oe : Obj) (cls : Value) (d : Option Addr) (pn : List (Addr × Obj)), L2N.Zn cls d oe → (∃ vs, oe.data = .fields vs) → PSs (X.suite a ((a, oe) :: pn)) (b₀ :: suite) (ts a oe cls d pn))
    (hs : X.stack = X.env :: X.outer := by rfl) (hf : X.env.frame = some X.env.locals := by rfl) (hln : X.env.kindOf n = some .local := by rfl) :
    PS X (.Try body [.ExceptHandler (some (.Name x np)) (some n) (b₀ :: suite) pos'] [] [] pos) (tTryAs X.K c i ts Wout tb) :=
  L2N.ps_try_as (tb := fun W D σ H => ∀ pn xe, tb W pn xe D σ H) (ts := tAll ts) hs hf hN hi hln hc tk (fun W pn xe tk po => pss_imp (hb W pn xe tk po) fun D σ H q => q pn xe)
    fun a oe cls d pn hz hfs => pss_imp (hsu a oe cls d pn hz hfs) fun D σ H q => q oe pn
theorem ps_tryOnly (hc : Names X x c) (tk : L2N.Takes X Wout)
    (hb : ∀ (W : WX) (pn : List (Addr × Obj)) (xe : Value → Shared → Prop), L2N.Takes (X.tr pn xe) W → PassesOwn (model X.prog X.w) X.A X.env xe → PSs (X.tr pn xe) body (tb W pn xe))
    (hsu : ∀ (a : Addr) (oe : Obj) (cls : Value) (d : Option Addr) (pn : List (Addr × Obj)), L2N.Zn cls d oe → (∃ vs, oe.data = .fields vs) → PSs (X.suite a ((a, oe) :: pn)) (b₀ :: suite) (ts a oe cls d pn))
    (hs : X.stack = X.env :: X.outer := by rfl) (hf : X.env.frame = some X.env.locals := by rfl) :
    PS X (.Try body [.ExceptHandler (some (.Name x np)) none (b₀ :: suite) pos'] [] [] pos) (tTryOnly X.K c ts Wout tb) :=
  L2N.ps_try_many (tb := fun W D σ H => ∀ pn xe, tb W pn xe D σ H) (l := [(c, tAll ts)]) hs hf tk (fun W pn xe tk po => pss_imp (hb W pn xe tk po) fun D σ H q => q pn xe)
    (.cons hc (fun a oe cls d pn hz hfs => pss_imp (hsu a oe cls d pn hz hfs) fun D σ H q => q oe pn) .nil)
end
end GG

/-! GS: rules for any operands (u_*), and the readings step by step, backwards (st_*). -/
namespace GG
open PySem L2 PyProof.Rows

/-! ### rules for any operands -/
def CM (i j : Int) : Prop := IntMulOk i j
theorem CM.left {i j : Int} (h1 : -(2 ^ 64) < i) (h2 : i < 2 ^ 64) : CM i j := IntMulOk.of_left (intBits_le_64 h1 h2)
theorem CM.right {i j : Int} (h1 : -(2 ^ 64) < j) (h2 : j < 2 ^ 64) : CM i j := IntMulOk.of_right (intBits_le_64 h1 h2)
theorem CM.wide {i j : Int} {a b : Nat} (ha : i.natAbs < 2 ^ a) (hb : j.natAbs < 2 ^ b) (h : a + b ≤ 900000) : CM i j :=
  (wide_mul (a := a + 1) (b := b + 1) (Nat.lt_of_lt_of_le ha (Nat.pow_le_pow_right (by decide) (Nat.le_succ a))) (Nat.lt_of_lt_of_le hb (Nat.pow_le_pow_right (by decide) (Nat.le_succ b))) (Nat.succ_pos _) (Nat.succ_pos _) (by omega)).ok
def CD (_ j : Int) : Prop := j ≠ 0 ∧ j.natAbs.log2 < 9000
def uAdd (K : PySem.W.Frag) : R2 := fun x y H Q => (rI0 fun i j => .int (i + j)) x y H Q ∨ ((∃ i j, x = .str i ∧ y = .str j ∧ i.length + j.length ≤ sizeLine ∧ Q (.str (i ++ j)) H) ∨ (rCat x y H Q ∨ rCatT K x y H Q))
def uMul : R2 := fun x y H Q => (rI CM fun i j => .int (i * j)) x y H Q ∨ rRep x y H Q
def uSub : R2 := rI0 fun i j => .int (i - j)
def uFdiv : R2 := rI CD fun i j => .int (i.fdiv j)
def uMod : R2 := rI (fun _ j => j ≠ 0) fun i j => .int (i.fmod j)
def uPow : R2 := rI CPow fun i j => .int (i ^ j.toNat)
def uEq (K : PySem.W.Frag) : R2 := fun x y H Q => rEq x y H Q ∨ rEqD K x y H Q
def uNe (K : PySem.W.Frag) : R2 := fun x y H Q => rNe x y H Q ∨ rNeD K x y H Q
def uLt : R2 := rI0 fun i j => .bl (decide (i < j))
def uLe : R2 := rI0 fun i j => .bl (decide (i ≤ j))
def uGt : R2 := rI0 fun i j => .bl (decide (j < i))
def uGe : R2 := rI0 fun i j => .bl (decide (j ≤ i))
def uIn (K : PySem.W.Frag) : R2 := rIn K false
def uNotin (K : PySem.W.Frag) : R2 := rIn K true
def uIx (K : PySem.W.Frag) : R2 := rIx K
def uSet : TSet := rSetL
def cInt : List V → Hp → VK → Prop := fun xs H Q => ((∃ i, xs = [.int i] ∧ Q (.int i) H) ∨ ∃ k, xs = [.bl k] ∧ Q (.int (if k then 1 else 0)) H)
def cLen (K : PySem.W.Frag) : List V → Hp → VK → Prop := fun xs H Q => ∃ x n, xs = [x] ∧ LenV K x H n ∧ Q (.int n) H
def cBool : List V → Hp → VK → Prop := fun xs H Q => (∃ i, xs = [.int i] ∧ Q (.bl (i != 0)) H) ∨ ∃ k, xs = [.bl k] ∧ Q (.bl k) H
section
variable {X : Cx}
theorem u_add (K : PySem.W.Frag) (hK : X.K = K := by rfl) : OpR X (binaryOp .Add) (uAdd K) := by subst hK; exact op_add.or (op_add_str.or (op_cat.or op_catT))
theorem u_sub : OpR X (binaryOp .Sub) uSub := op_sub
theorem u_mul : OpR X (binaryOp .Mult) uMul := OpR.or (opI fun _ _ _ _ _ _ _ hc q => mul_int q hc) op_rep
theorem u_fdiv : OpR X (binaryOp .FloorDiv) uFdiv := opI fun _ _ _ _ _ _ _ hc q => floordiv_int hc.1 q (.inl (PyProof.noPylong_of_log2 hc.2))
theorem u_mod : OpR X (binaryOp .Mod) uMod := op_modN
theorem u_pow : OpR X (binaryOp .Pow) uPow := op_pow
theorem u_eq (K : PySem.W.Frag) (hu : X.A.units + 64 < cLine) (hK : X.K = K := by rfl) : OpR X (compareOp .Eq) (uEq K) := by subst hK; exact op_eq.or (op_eqD hu)
theorem u_ne (K : PySem.W.Frag) (hu : X.A.units + 64 < cLine) (hK : X.K = K := by rfl) : OpR X (compareOp .NotEq) (uNe K) := by subst hK; exact op_ne.or (op_neD hu)
theorem u_lt : OpR X (compareOp .Lt) uLt := op_lt
theorem u_le : OpR X (compareOp .LtE) uLe := op_le
theorem u_gt : OpR X (compareOp .Gt) uGt := op_gt
theorem u_ge : OpR X (compareOp .GtE) uGe := op_ge
theorem u_in (K : PySem.W.Frag) (hK : X.K = K := by rfl) : OpR X (compareOp .In) (uIn K) := by subst hK; exact op_in_seq
theorem u_notin (K : PySem.W.Frag) (hK : X.K = K := by rfl) : OpR X (compareOp .NotIn) (uNotin K) := by subst hK; exact op_notIn_seq
theorem u_ix (K : PySem.W.Frag) (hK : X.K = K := by rfl) : IxR X (uIx K) := by subst hK; exact ix_seq
theorem u_set : PSet X uSet := set_list
theorem c_int : CallR X (.type "int") cInt := call_int1
theorem c_len (K : PySem.W.Frag) (hK : X.K = K := by rfl) : CallR X (.builtin "len") (cLen K) := by subst hK; exact call_len
theorem c_bool : CallR X (.type "bool") cBool := call_bool1
section
variable (K : PySem.W.Frag) {e o value tg : Expr} {f : Str} {pos pos' : Pos} {ta tv : TE} {T : String} {as : TA} {r : V → List V → Hp → VK → Prop} {st : Stmt} {n : Nat} {gs : TGs}
theorem pe_fldK (h : PE X e (tFld X.K ta f)) (hK : X.K = K := by rfl) : PE X e (tFld K ta f) := by subst hK; exact h
theorem ps_fldK (h : PS X st (sFld X.K ta tv f)) (hK : X.K = K := by rfl) : PS X st (sFld K ta tv f) := by subst hK; exact h
theorem pe_bmK (h : PE X e (tBM X.K T r ta as)) (hK : X.K = K := by rfl) : PE X e (tBM K T r ta as) := by subst hK; exact h
theorem pe_bm0K (h : PE X e (tBM0 X.K T r ta)) (hK : X.K = K := by rfl) : PE X e (tBM0 K T r ta) := by subst hK; exact h
theorem pi_listK (h : PI X tg e (iList X.K ta)) (hK : X.K = K := by rfl) : PI X tg e (iList K ta) := by subst hK; exact h
theorem pi_tupK (h : PI X tg e (iTup X.K ta)) (hK : X.K = K := by rfl) : PI X tg e (iTup K ta) := by subst hK; exact h
theorem pg_tupK (h : PG X e (gTup X.K n gs)) (hK : X.K = K := by rfl) : PG X e (gTup K n gs) := by subst hK; exact h
theorem pe_lcV (vs : List Nat) {ws : List Nat} {wi : TI} {g : TG} {tt : TT} {te : TE} (h : PE X e (tLc wi g tt te ws)) (hv : ws = vs := by rfl) : PE X e (tLc wi g tt te vs) := by subst hv; exact h
theorem ps_lcV (vs : List Nat) {ws : List Nat} {wi : TI} {g : TG} {tt : TT} {te : TE} (h : PS X st (tAsg (tLc wi g tt te ws) (gName n))) (hv : ws = vs := by rfl) : PS X st (tAsg (tLc wi g tt te vs) (gName n)) := by subst hv; exact h
theorem c_isi (hK : X.K = K := by rfl) : CallR X (.builtin "isinstance") (rIsi K) := by subst hK; exact call_isi
end
theorem m_append : MtR X "list.append" rAppend := mt_append
theorem m_popAt : MtR X "list.pop" rPopAt := mt_popAt
theorem m_pop : MtR X "list.pop" rPop := mt_pop
end

/-! ### heaps: Ext (grown), But l (grown, the object at l changed) -/
def Ext (H H' : Hp) : Prop := ∀ a o, H a = some o → H' a = some o
def But (l : Addr) (H H' : Hp) : Prop := ∀ a o, a ≠ l → H a = some o → H' a = some o
theorem Ext.rfl {H : Hp} : Ext H H := fun _ _ h => h
theorem Ext.trans {H H1 H2 : Hp} (a : Ext H H1) (b : Ext H1 H2) : Ext H H2 := fun x o h => b x o (a x o h)
theorem Ext.look {H H' : Hp} {a : Addr} {o : HO} (e : Ext H H') (h : H a = some o) : H' a = some o := e a o h
theorem Ext.new {H : Hp} {p : Addr} {o : HO} (h : H p = none) : Ext H (upd H p o) := fun a u e => by rw [upd_ne (ne_of_none e h)]; exact e
theorem Ext.free {H H' : Hp} (e : Ext H H') {l : Addr} (h : H' l = Option.none) : H l = Option.none := Same.free e h
theorem Ext.but {H H' : Hp} {l : Addr} (e : Ext H H') : But l H H' := fun a o _ h => e a o h
theorem But.rfl {H : Hp} {l : Addr} : But l H H := fun _ _ _ h => h
theorem But.trans {H H1 H2 : Hp} {l : Addr} (a : But l H H1) (b : But l H1 H2) : But l H H2 := fun x o n h => b x o n (a x o n h)
theorem But.look {H H' : Hp} {l a : Addr} {o : HO} (e : But l H H') (n : a ≠ l) (h : H a = some o) : H' a = some o := e a o n h
/-- .. where the two objects are of unlike kinds -/
theorem But.lookK {H H' : Hp} {l a : Addr} {o u : HO} (e : But l H H') (hl : H l = some u) (h : H a = some o) (n : o ≠ u) : H' a = some o := e a o (ne_of h hl n) h
theorem But.upd {H : Hp} {l : Addr} {o : HO} : But l H (L2.upd H l o) := fun a u n e => by rw [upd_ne n]; exact e
/-- what is new behind l's change -/
theorem But.ext {H0 H H' : Hp} {l : Addr} (e : But l H H') (e0 : Ext H0 H) (h : H0 l = none) : Ext H0 H' := fun a o q => e a o (ne_of_none q h) (e0 a o q)
theorem But.exts {H H1 H2 : Hp} {l : Addr} (a : But l H H1) (b : Ext H1 H2) : But l H H2 := a.trans b.but
theorem Ext.buts {H H1 H2 : Hp} {l : Addr} (a : Ext H H1) (b : But l H1 H2) : But l H H2 := a.but.trans b
theorem Ext.sq {K : PySem.W.Frag} {H H' : Hp} {a : Addr} {xs : List V} (e : Ext H H') (h : SqL K H a xs) : SqL K H' a xs := Same.seq e h

/-! ### statements, run with their four ends -/
def Run (t : TS) (nx : L2.St → Hp → Prop) (rt : VK) (bk ct : L2.St → Hp → Prop) (σ : L2.St) (H : Hp) : Prop := t ⟨nx, rt, bk, ct⟩ σ H
abbrev NoE : L2.St → Hp → Prop := fun _ _ => False
section
variable {K : PySem.W.Frag} {nx bk ct : L2.St → Hp → Prop} {rt : VK} {σ : L2.St} {H : Hp} {t u : TS} {te ta tb tc : TE} {tt tu : TT} {as : TA} {Q : VK} {QB : Bool → Hp → Prop} {QA : List V → Hp → Prop} {v x y : V} {E : L2.St → XK} {sp : Sp} {D : Ends}
theorem run_of (h : Run t D.nx D.rt D.bk D.ct σ H) : t D σ H := h
theorem run_start {σ' : L2.St} (e : σ' = σ) (h : Run t (fun _ H' => Q .non H') Q NoE NoE σ H) : t { nx := fun _ H' => Q .non H', rt := Q } σ' H := by
  subst e
  exact h
theorem run_seq (h : Run t (fun σ' H' => Run u nx rt bk ct σ' H') rt bk ct σ H) : Run (tSeq t u) nx rt bk ct σ H := h
theorem run_next (h : nx σ H) : Run tNext nx rt bk ct σ H := h
theorem run_asg {i : Nat} (h : te σ H fun x H1 => nx (σ.set i (some x)) H1) : Run (tAsg te (gName i)) nx rt bk ct σ H := h
theorem run_asgG {g : TG} (h : te σ H fun x H1 => g x σ H1 nx) : Run (tAsg te g) nx rt bk ct σ H := h
theorem run_drop (h : te σ H fun _ H1 => nx σ H1) : Run (tDrop te) nx rt bk ct σ H := h
theorem run_ret (h : te σ H rt) : Run (tRet te) nx rt bk ct σ H := h
theorem run_retN (h : rt .non H) : Run tRetN nx rt bk ct σ H := h
theorem run_break (h : bk σ H) : Run tBreak nx rt bk ct σ H := h
theorem run_cont (h : ct σ H) : Run tCont nx rt bk ct σ H := h
/-- the two ways of a test -/
def Br (b : Bool) (A B : Prop) : Prop := if b = true then A else B
theorem run_ifS (h : tt σ H fun b H1 => Br b (Run t nx rt bk ct σ H1) (Run u nx rt bk ct σ H1)) : Run (tIfS tt t u) nx rt bk ct σ H := h
theorem br_t {A B : Prop} (h : A) : Br true A B := iteT h
theorem br_f {A B : Prop} (h : B) : Br false A B := iteF h
theorem br_d {p A B : Prop} [Decidable p] (h1 : p → A) (h2 : ¬ p → B) : Br (decide p) A B := by
  by_cases h : p
  · rw [decide_eq_true h]; exact br_t (h1 h)
  · rw [decide_eq_false h]; exact br_f (h2 h)
theorem br_nd {p A B : Prop} [Decidable p] (h1 : ¬ p → A) (h2 : p → B) : Br (!decide p) A B := by
  by_cases h : p
  · rw [decide_eq_true h]; exact br_f (h2 h)
  · rw [decide_eq_false h]; exact br_t (h1 h)
theorem br_b {b : Bool} {A B : Prop} (h1 : b = true → A) (h2 : b = false → B) : Br b A B := by
  cases b with
  | true => exact br_t (h1 rfl)
  | false => exact br_f (h2 rfl)
theorem br_not {b : Bool} {A B : Prop} (h : Br b B A) : Br (!b) A B := by
  cases b with
  | true => exact h
  | false => exact h
/-! ### expressions -/
theorem st_var {i : Nat} (h : σ[i]? = some (some v)) (q : Q v H) : tVar i σ H Q := ⟨v, h, q⟩
theorem st_c (q : Q v H) : tC v σ H Q := q
theorem st_op {r : R2} (h : ta σ H fun x H1 => tb σ H1 fun y H2 => r x y H2 Q) : tOp r ta tb σ H Q := h
theorem st_opS {r : R2S} (h : ta σ H fun x H1 => tb σ H1 fun y H2 => r σ x y H2 Q) : tOpS r ta tb σ H Q := h
theorem st_un {r : V → Hp → VK → Prop} (h : ta σ H fun x H1 => r x H1 Q) : tUn r ta σ H Q := h
theorem st_unS {r : L2.St → V → Hp → VK → Prop} (h : ta σ H fun x H1 => r σ x H1 Q) : tUnS r ta σ H Q := h
theorem st_nil (h : QA [] H) : tNil σ H QA := h
theorem st_cons {tr : TA} (h : ta σ H fun x H1 => tr σ H1 fun xs H2 => QA (x :: xs) H2) : tCons ta tr σ H QA := h
theorem st_cb {r : List V → Hp → VK → Prop} (h : as σ H fun vs H1 => r vs H1 Q) : tCB r as σ H Q := h
theorem st_cbS {r : L2.St → List V → Hp → VK → Prop} (h : as σ H fun vs H1 => r σ vs H1 Q) : tCBS r as σ H Q := h
theorem st_fn {dvs : List V} (h : as σ H fun vs H1 => sp (vs ++ dvs) H1 Q (E σ)) : tCallSD sp dvs E as σ H Q := h
/-- a new tuple, a new list -/
def rTup (xs : List V) (H : Hp) (Q : VK) : Prop := xs.length ≤ sizeLine ∧ ∀ p, H p = none → Q (.ref p) (upd H p (.tup xs))
def rLst (xs : List V) (H : Hp) (Q : VK) : Prop := xs.length ≤ sizeLine ∧ ∀ p, H p = none → Q (.ref p) (upd H p (.lst xs))
theorem st_tup (h : as σ H fun xs H1 => rTup xs H1 Q) : tTup as σ H Q := h
theorem st_lst (h : as σ H fun xs H1 => rLst xs H1 Q) : tLst as σ H Q := h
theorem r_tup {xs : List V} (hz : xs.length ≤ 1000) (h : ∀ p H2, H p = none → Ext H H2 → H2 p = some (.tup xs) → Q (.ref p) H2) : rTup xs H Q := ⟨Nat.le_trans hz (by decide), fun p hp => h p _ hp (Ext.new hp) upd_same⟩
theorem r_lst {xs : List V} (hz : xs.length ≤ 1000) (h : ∀ p H2, H p = none → Ext H H2 → H2 p = some (.lst xs) → Q (.ref p) H2) : rLst xs H Q := ⟨Nat.le_trans hz (by decide), fun p hp => h p _ hp (Ext.new hp) upd_same⟩
/-- e.f -/
def rFld (K : PySem.W.Frag) (f : Str) (x : V) (H : Hp) (Q : VK) : Prop := ∃ a C dx fs v, x = .ref a ∧ H a = some (.ins C dx fs) ∧ Cls K C ∧ NoAttr K C f ∧ fs.lookup f = some v ∧ Q v H
theorem st_fld {f : Str} (h : ta σ H fun x H1 => rFld K f x H1 Q) : tFld K ta f σ H Q := h
theorem r_fld {f : Str} {a C dx : Addr} {fs : List (Str × V)} (h : H a = some (.ins C dx fs)) (c : Cls K C) (n : NoAttr K C f) (l : fs.lookup f = some v) (q : Q v H) : rFld K f (.ref a) H Q := ⟨a, C, dx, fs, v, rfl, h, c, n, l, q⟩
/-- e.f = v -/
def rPutF (K : PySem.W.Frag) (f : Str) (x y : V) (H : Hp) (k : Hp → Prop) : Prop := ∃ a C dx fs, x = .ref a ∧ H a = some (.ins C dx fs) ∧ Cls K C ∧ NoAttr K C f ∧ fs.length < 1000 ∧ k (upd H a (.ins C dx (putF f y fs)))
theorem run_fld {f : Str} (h : tb σ H fun y H1 => ta σ H1 fun x H2 => rPutF K f x y H2 (nx σ)) : Run (sFld K ta tb f) nx rt bk ct σ H := h
theorem r_putF {f : Str} {a C dx : Addr} {fs : List (Str × V)} {k : Hp → Prop} (h : H a = some (.ins C dx fs)) (c : Cls K C) (n : NoAttr K C f) (l : fs.length < 1000) (q : k (upd H a (.ins C dx (putF f y fs)))) : rPutF K f (.ref a) y H k := ⟨a, C, dx, fs, rfl, h, c, n, l, q⟩
/-- a test -/
def rTest (x : V) (H : Hp) (QB : Bool → Hp → Prop) : Prop := ∃ k, x = .bl k ∧ QB k H
theorem st_test (h : te σ H fun x H' => rTest x H' QB) : tTest te σ H QB := h
theorem r_test {k : Bool} (h : QB k H) : rTest (.bl k) H QB := ⟨k, rfl, h⟩
def rTru (K : PySem.W.Frag) (x : V) (H : Hp) (QB : Bool → Hp → Prop) : Prop := ∃ k, TruV K x H k ∧ QB k H
theorem st_tru (h : te σ H fun x H' => rTru K x H' QB) : (fun (σ : L2.St) H (Q : Bool → Hp → Prop) => te σ H fun x H' => ∃ k, TruV K x H' k ∧ Q k H') σ H QB := h
theorem r_truB {k : Bool} (h : QB k H) : rTru K (.bl k) H QB := ⟨k, rfl, h⟩
theorem st_not (h : tt σ H fun c H1 => QB (!c) H1) : tNot tt σ H QB := h
theorem st_and (h : tt σ H fun c H1 => Br c (tu σ H1 QB) (QB false H1)) : tAnd tt tu σ H QB := h
theorem st_or (h : tt σ H fun c H1 => Br c (QB true H1) (tu σ H1 QB)) : tOr tt tu σ H QB := h
def rAndV (tb : TE) (σ : L2.St) (x : V) (H : Hp) (Q : VK) : Prop := ∃ c, x = .bl c ∧ if c = true then tb σ H Q else Q (.bl false) H
def rOrV (tb : TE) (σ : L2.St) (x : V) (H : Hp) (Q : VK) : Prop := ∃ c, x = .bl c ∧ if c = true then Q (.bl true) H else tb σ H Q
theorem st_andV (h : ta σ H fun x H1 => rAndV tb σ x H1 Q) : tAndV ta tb σ H Q := h
theorem st_orV (h : ta σ H fun x H1 => rOrV tb σ x H1 Q) : tOrV ta tb σ H Q := h
theorem r_andV {c : Bool} (h : Br c (tb σ H Q) (Q (.bl false) H)) : rAndV tb σ (.bl c) H Q := ⟨c, rfl, h⟩
theorem r_orV {c : Bool} (h : Br c (Q (.bl true) H) (tb σ H Q)) : rOrV tb σ (.bl c) H Q := ⟨c, rfl, h⟩
def rNotV (x : V) (H : Hp) (Q : VK) : Prop := ∃ c, x = .bl c ∧ Q (.bl (!c)) H
theorem st_notV (h : ta σ H fun x H1 => rNotV x H1 Q) : tNotV ta σ H Q := h
theorem r_notV {c : Bool} (h : Q (.bl (!c)) H) : rNotV (.bl c) H Q := ⟨c, rfl, h⟩
theorem st_ifE (h : tt σ H fun c H1 => Br c (ta σ H1 Q) (tb σ H1 Q)) : tIf tt ta tb σ H Q := h
def rChain (r' : R2) (tc : TE) (σ : L2.St) (y z : V) (H : Hp) (Q : VK) : Prop := ∃ k, z = .bl k ∧ (if k = true then tc σ H fun w' H4 => r' y w' H4 Q else Q (.bl false) H)
theorem st_chain {r r' : R2} (h : ta σ H fun x H1 => tb σ H1 fun y H2 => r x y H2 fun z H3 => rChain r' tc σ y z H3 Q) : tChain r r' ta tb tc σ H Q := h
theorem r_chain {r' : R2} {k : Bool} (h : Br k (tc σ H fun w' H4 => r' y w' H4 Q) (Q (.bl false) H)) : rChain r' tc σ y (.bl k) H Q := ⟨k, rfl, h⟩
/-! ### the operators on values -/
variable {i j : Int}
theorem v_add (q : Q (.int (i + j)) H) : uAdd K (.int i) (.int j) H Q := .inl ⟨i, j, rfl, rfl, q⟩
theorem v_addS {i j : Str} (hz : i.length + j.length ≤ 1000000) (q : Q (.str (i ++ j)) H) : uAdd K (.str i) (.str j) H Q := .inr (.inl ⟨i, j, rfl, rfl, Nat.le_trans hz (by decide), q⟩)
theorem v_addL {a b : Addr} {xs ys : List V} (ha : H a = some (.lst xs)) (hb : H b = some (.lst ys)) (hz : xs.length + ys.length ≤ 1000000) (q : ∀ p H2, H p = none → Ext H H2 → H2 p = some (.lst (xs ++ ys)) → Q (.ref p) H2) : uAdd K (.ref a) (.ref b) H Q :=
  .inr (.inr (.inl ⟨a, b, xs, ys, rfl, rfl, ha, hb, Nat.le_trans hz (by decide), fun p hp => q p _ hp (Ext.new hp) upd_same⟩))
theorem v_sub (q : Q (.int (i - j)) H) : uSub (.int i) (.int j) H Q := ⟨i, j, rfl, rfl, q⟩
theorem v_mul (hc : CM i j) (q : Q (.int (i * j)) H) : uMul (.int i) (.int j) H Q := .inl ⟨i, j, rfl, rfl, hc, q⟩
theorem v_fdiv (hc : CD i j) (q : Q (.int (i.fdiv j)) H) : uFdiv (.int i) (.int j) H Q := ⟨i, j, rfl, rfl, hc, q⟩
theorem v_mod (hc : 0 < j) (q : Q (.int (i % j)) H) : uMod (.int i) (.int j) H Q := ⟨i, j, rfl, rfl, by omega, by show Q (.int (i.fmod j)) H; rw [Int.fmod_eq_emod_of_nonneg i (by omega)]; exact q⟩
theorem v_modN (hc : j ≠ 0) (q : Q (.int (i.fmod j)) H) : uMod (.int i) (.int j) H Q := ⟨i, j, rfl, rfl, hc, q⟩
theorem v_pow (hc : CPow i j) (q : Q (.int (i ^ j.toNat)) H) : uPow (.int i) (.int j) H Q := ⟨i, j, rfl, rfl, hc, q⟩
theorem v_lt (q : Q (.bl (decide (i < j))) H) : uLt (.int i) (.int j) H Q := ⟨i, j, rfl, rfl, q⟩
theorem v_le (q : Q (.bl (decide (i ≤ j))) H) : uLe (.int i) (.int j) H Q := ⟨i, j, rfl, rfl, q⟩
theorem v_gt (q : Q (.bl (decide (j < i))) H) : uGt (.int i) (.int j) H Q := ⟨i, j, rfl, rfl, q⟩
theorem v_ge (q : Q (.bl (decide (j ≤ i))) H) : uGe (.int i) (.int j) H Q := ⟨i, j, rfl, rfl, q⟩
theorem dec_congr {p q : Prop} [Decidable p] [Decidable q] (h : p ↔ q) : decide p = decide q := by
  by_cases c : p
  · rw [decide_eq_true c, decide_eq_true (h.mp c)]
  · rw [decide_eq_false c, decide_eq_false (fun z => c (h.mpr z))]
theorem v_eq (q : Q (.bl (decide (i = j))) H) : uEq K (.int i) (.int j) H Q := .inl ⟨rfl, by rw [dec_congr (q := i = j) ⟨fun h => V.int.inj h, fun h => by rw [h]⟩]; exact q⟩
theorem v_ne (q : Q (.bl (!decide (i = j))) H) : uNe K (.int i) (.int j) H Q := .inl ⟨rfl, by rw [dec_congr (q := i = j) ⟨fun h => V.int.inj h, fun h => by rw [h]⟩]; exact q⟩
theorem v_eqB {i j : Bool} (q : Q (.bl (decide (i = j))) H) : uEq K (.bl i) (.bl j) H Q := .inl ⟨rfl, by rw [dec_congr (q := i = j) ⟨fun h => V.bl.inj h, fun h => by rw [h]⟩]; exact q⟩
theorem v_neB {i j : Bool} (q : Q (.bl (!decide (i = j))) H) : uNe K (.bl i) (.bl j) H Q := .inl ⟨rfl, by rw [dec_congr (q := i = j) ⟨fun h => V.bl.inj h, fun h => by rw [h]⟩]; exact q⟩
theorem v_eqS {i j : Str} (q : Q (.bl (decide (i = j))) H) : uEq K (.str i) (.str j) H Q := .inl ⟨rfl, by rw [dec_congr (q := i = j) ⟨fun h => V.str.inj h, fun h => by rw [h]⟩]; exact q⟩
theorem v_neS {i j : Str} (q : Q (.bl (!decide (i = j))) H) : uNe K (.str i) (.str j) H Q := .inl ⟨rfl, by rw [dec_congr (q := i = j) ⟨fun h => V.str.inj h, fun h => by rw [h]⟩]; exact q⟩
/-- two tuples of two ints -/
theorem v_eqT2 {a b : Addr} {i j k l : Int} (ha : H a = some (.tup [.int i, .int j])) (hb : H b = some (.tup [.int k, .int l])) (q : Q (.bl (decide (i = k ∧ j = l))) H) : uEq K (.ref a) (.ref b) H Q := by
  refine .inr ⟨.tuple [.int i, .int j], .tuple [.int k, .int l], .tup (SqT.of ha) (.cons (.int _) (.cons (.int _) .nil)), .tup (SqT.of hb) (.cons (.int _) (.cons (.int _) .nil)), rfl, rfl, ?_⟩
  have e : PyData.eqv (.tuple [.int i, .int j]) (.tuple [.int k, .int l]) = decide (i = k ∧ j = l) := by
    rw [Bool.eq_iff_iff]
    simp [PyData.eqv, PyData.eqvAll]
  rw [e]
  exact q
theorem v_ixL {a : Addr} {xs : List V} {z : Int} (ha : H a = some (.lst xs)) (hz : 0 ≤ z) (h : xs[z.toNat]? = some v) (q : Q v H) : uIx K (.ref a) (.int z) H Q :=
  .inl ⟨a, xs, z, v, rfl, rfl, SqL.of ha, at_of (Int.toNat_of_nonneg hz).symm h, q⟩
theorem v_ixT {a : Addr} {xs : List V} {z : Int} (ha : H a = some (.tup xs)) (hz : 0 ≤ z) (h : xs[z.toNat]? = some v) (q : Q v H) : uIx K (.ref a) (.int z) H Q :=
  .inr (.inl ⟨a, xs, z, v, rfl, rfl, SqT.of ha, at_of (Int.toNat_of_nonneg hz).symm h, q⟩)
theorem v_neg (q : Q (.int (-i)) H) : (rU fun i => .int (-i)) (.int i) H Q := ⟨i, rfl, q⟩
theorem v_int (q : Q (.int i) H) : cInt [.int i] H Q := .inl ⟨i, rfl, q⟩
theorem v_intB {b : Bool} (q : Q (.int (if b then 1 else 0)) H) : cInt [.bl b] H Q := .inr ⟨b, rfl, q⟩
theorem v_boolB {b : Bool} (q : Q (.bl b) H) : cBool [.bl b] H Q := .inr ⟨b, rfl, q⟩
theorem v_lenL {a : Addr} {xs : List V} (ha : H a = some (.lst xs)) (q : Q (.int (xs.length : Int)) H) : cLen K [.ref a] H Q := ⟨.ref a, xs.length, rfl, .inl ⟨xs, SqL.of ha, rfl⟩, q⟩
theorem v_lenT {a : Addr} {xs : List V} (ha : H a = some (.tup xs)) (q : Q (.int (xs.length : Int)) H) : cLen K [.ref a] H Q := ⟨.ref a, xs.length, rfl, .inr ⟨xs, SqT.of ha, rfl⟩, q⟩
/-- xs[n] = v -/
theorem st_sub {T : TSet} {k : L2.St → Hp → Prop} (h : ta σ H fun o H1 => tb σ H1 fun i H2 => T o i v H2 fun H3 => k σ H3) : gSub ta tb T v σ H k := h
theorem v_set {a : Addr} {xs : List V} {z : Int} {k : Hp → Prop} (ha : H a = some (.lst xs)) (hz : 0 ≤ z) (h : z.toNat < xs.length) (q : ∀ H2, But a H H2 → H2 a = some (.lst (xs.set z.toNat v)) → k H2) : uSet (.ref a) (.int z) v H k :=
  ⟨a, xs, z, z.toNat, rfl, rfl, ha, by unfold ixN; rw [if_pos hz, if_pos (by omega)], q _ But.upd upd_same⟩
/-- methods of lists -/
theorem st_bm {T : String} {r : V → List V → Hp → VK → Prop} (h : ta σ H fun x H1 => tyV K T x H1 ∧ as σ H1 fun xs H2 => r x xs H2 Q) : tBM K T r ta as σ H Q := h
theorem st_bm0 {T : String} {r : V → List V → Hp → VK → Prop} (h : ta σ H fun x H1 => tyV K T x H1 ∧ r x [] H1 Q) : tBM0 K T r ta σ H Q := h
theorem ty_list {a : Addr} {xs : List V} (ha : H a = some (.lst xs)) : tyV K "list" (.ref a) H := .inl ⟨rfl, xs, SqL.of ha⟩
theorem v_append {a : Addr} {xs : List V} (ha : H a = some (.lst xs)) (hz : xs.length < 1000000) (q : ∀ H2, But a H H2 → H2 a = some (.lst (xs ++ [v])) → Q .non H2) : rAppend (.ref a) [v] H Q :=
  ⟨a, xs, v, rfl, rfl, ha, Nat.lt_of_lt_of_le hz (by decide), q _ But.upd upd_same⟩
theorem v_popAt {a : Addr} {xs : List V} {z : Int} (ha : H a = some (.lst xs)) (hz : 0 ≤ z) (hn : z < 1000000) (h : xs[z.toNat]? = some v) (q : ∀ H2, But a H H2 → H2 a = some (.lst (xs.eraseIdx z.toNat)) → Q v H2) : rPopAt (.ref a) [.int z] H Q :=
  ⟨a, xs, z, z.toNat, v, rfl, rfl, ha, by omega, by omega, by
    have w := (List.getElem?_eq_some_iff.mp h).1
    show (if (decide ((0 : Int) ≤ (if z < 0 then z + xs.length else z)) && decide ((if z < 0 then z + xs.length else z) < xs.length)) = true then some (if z < 0 then z + xs.length else z).toNat else none) = some z.toNat
    rw [if_neg (show ¬ z < 0 by omega), if_pos (by simp; omega)], h, q _ But.upd upd_same⟩
/-- what a change leaves -/
theorem chg {a : Addr} {o : HO} {k : Hp → Prop} (h : ∀ H2, But a H H2 → H2 a = some o → k H2) : k (upd H a o) := h _ But.upd upd_same
end
end GG

/-! GT: loops, comprehensions, makings, tries, isinstance: the readings step by step. -/
namespace GG
open PySem L2 PyProof.Rows

/-! ### more rules for any operands -/
def cMin2 : List V → Hp → VK → Prop := fun xs H Q => ∃ i j, xs = [.int i, .int j] ∧ Q (.int (if j < i then j else i)) H
def cMax2 : List V → Hp → VK → Prop := fun xs H Q => ∃ i j, xs = [.int i, .int j] ∧ Q (.int (if j > i then j else i)) H
def cAbs : List V → Hp → VK → Prop := fun xs H Q => ∃ i, xs = [.int i] ∧ Q (.int (if i < 0 then -i else i)) H
section
variable {X : Cx}
theorem c_min2 (hc : X.calm = true) : CallR X (.builtin "min") cMin2 := call_min2 hc
theorem c_max2 (hc : X.calm = true) : CallR X (.builtin "max") cMax2 := call_max2 hc
theorem c_min1 (K : PySem.W.Frag) (hc : X.calm = true) (hK : X.K = K := by rfl) : CallR X (.builtin "min") (rMin K) := by subst hK; exact cr_min hc
theorem c_max1 (K : PySem.W.Frag) (hc : X.calm = true) (hK : X.K = K := by rfl) : CallR X (.builtin "max") (rMax K) := by subst hK; exact cr_max hc
theorem c_abs : CallR X (.builtin "abs") cAbs := call_abs
end

theorem cd_small {i j : Int} (h0 : 0 < j) (h1 : j ≤ 1000000) : CD i j := ⟨by omega, Nat.lt_trans (PySem.Flt.log2_lt_of (k := 20) (by decide) (by omega)) (by decide)⟩
theorem kit_self {K : PySem.W.Frag} {C : Addr} : PySem.W.kitOne K (.ref C) (.ref C) = some true := by
  unfold PySem.W.kitOne
  rw [if_pos (beq_self_eq_true _)]
theorem not_first {K : PySem.W.Frag} {C : Addr} {t : Value} (h : PySem.W.subIn K t (.ref C) = some false) : PySem.W.notFirst K C t = true := by
  unfold PySem.W.notFirst
  rw [h]
  simp
theorem right_mk {K : PySem.W.Frag} {C : Addr} {T nm : String} {d r : Str} {fo ro rc : Option Value} (hd : PySem.dunder nm = d) (hr : dunderR nm = r) (r1 : PySem.W.findIn K (.type T) d = some fo) (r2 : PySem.W.findIn K (.type T) r = some ro) (r3 : PySem.W.findIn K (.ref C) r = some rc)
    (r3' : rc = none ∨ ∃ g : Addr, rc = some (.ref g)) (r4 : PySem.W.subIn K (.type T) (.ref C) = some false) : RightT K C T nm := by
  subst hd
  subst hr
  exact ⟨⟨_, r1⟩, ⟨_, r2⟩, ⟨_, r3, r3'⟩, r4⟩
/-- what the top has written of an own class x, at C -/
structure OwnC (K : PySem.W.Frag) (mg : Str → Option Value) (x : Str) (C : Addr) : Prop where
  g : mg x = some (.ref C)
  cl : Cls K C
  sf : PySem.W.selfFirst K C = true
  ha : PySem.W.findIn K (.ref C) "__class__" = some (some (.builtin "object.__class__"))
  hn : PySem.W.specialIn K (.builtin "object.__class__") "__get__" = some (some (.builtin "getset_descriptor.__get__"))
  ht : PySem.W.takesIn K (.builtin "object.__class__") = some true
  hm : PySem.W.mroIn K C (.type "object") = some true
  ki : PySem.W.kitOne K (.ref C) (.ref C) = some true
theorem OwnC.ty {K : PySem.W.Frag} {mg : Str → Option Value} {x : Str} {C a dx : Addr} {H : Hp} {fs : List (Str × V)} (O : OwnC K mg x C) (e : H a = some (.ins C dx fs)) : TyX K H (.ref a) (.ref C) := .base (.ins e O.cl O.ha O.hn O.ht O.hm)

/-- a continuation at slots with one set -/
def Kont (nx : L2.St → Hp → Prop) (σ : L2.St) (n : Nat) (v : Option V) (H : Hp) : Prop := nx (σ.set n v) H
/-- a value's truth, as a test -/
def tTru (K : PySem.W.Frag) (te : TE) : TT := fun σ H Q => te σ H fun x H' => rTru K x H' Q
theorem pt_tru (K : PySem.W.Frag) {X : Cx} {a : Expr} {ta : TE} (ha : PE X a ta) (he : ∀ whole, isTrue a X.env whole = (do let v ← whole; standAt a.pos; holding [v] (truthy v))) (hK : X.K = K := by rfl) : PT X a (tTru K ta) := by subst hK; exact pt_truth ha he
section
variable {K : PySem.W.Frag} {mg : Str → Option Value} {nx bk ct : L2.St → Hp → Prop} {rt : VK} {σ : L2.St} {H : Hp} {t u : TS} {te ta tb tc : TE} {tt tu : TT} {as : TA} {Q : VK} {QB : Bool → Hp → Prop} {QA : List V → Hp → Prop} {v x y : V} {E : L2.St → XK} {sp : Sp} {i j : Int}
theorem v_min2 (q : Q (.int (min i j)) H) : cMin2 [.int i, .int j] H Q := ⟨i, j, rfl, by rw [show (if j < i then j else i) = min i j by split <;> omega]; exact q⟩
theorem v_max2 (q : Q (.int (max i j)) H) : cMax2 [.int i, .int j] H Q := ⟨i, j, rfl, by rw [show (if j > i then j else i) = max i j by split <;> omega]; exact q⟩
theorem v_abs (q : Q (.int (if i < 0 then -i else i)) H) : cAbs [.int i] H Q := ⟨i, rfl, q⟩
theorem v_min1 {a : Addr} {ns : List Int} (ha : H a = some (.lst (ns.map V.int))) (h : 0 < ns.length) (q : ∀ m, m ∈ ns → (∀ y, y ∈ ns → m ≤ y) → Q (.int m) H) : rMin K [.ref a] H Q := ⟨a, ns, rfl, SqL.of ha, h, q⟩
theorem v_max1 {a : Addr} {ns : List Int} (ha : H a = some (.lst (ns.map V.int))) (h : 0 < ns.length) (q : ∀ m, m ∈ ns → (∀ y, y ∈ ns → y ≤ m) → Q (.int m) H) : rMax K [.ref a] H Q := ⟨a, ns, rfl, SqL.of ha, h, q⟩
/-! ### isinstance -/
theorem v_isII (q : Q (.bl true) H) : rIsi K [.int i, .ty "int"] H Q := ⟨.int i, .ty "int", .type "int", .type "int", true, rfl, .ty _, .base (.int i), kit_ty (by decide +kernel), q⟩
theorem v_isIB (q : Q (.bl false) H) : rIsi K [.int i, .ty "bool"] H Q := ⟨.int i, .ty "bool", .type "int", .type "bool", false, rfl, .ty _, .base (.int i), kit_ty (by decide +kernel), q⟩
theorem v_isBB {b : Bool} (q : Q (.bl true) H) : rIsi K [.bl b, .ty "bool"] H Q := ⟨.bl b, .ty "bool", .type "bool", .type "bool", true, rfl, .ty _, .base (.bl b), kit_ty (by decide +kernel), q⟩
theorem v_isO {n : Str} {C a dx : Addr} {fs : List (Str × V)} (e : H a = some (.ins C dx fs)) (O : OwnC K mg n C) (q : Q (.bl true) H) : rIsi K [.ref a, .ref C] H Q := ⟨.ref a, .ref C, .ref C, .ref C, true, rfl, .own C, O.ty e, O.ki, q⟩
theorem v_isX {n : Str} {a C fI dd : Addr} {v c : V} {cv : Value} {b : Bool} (T : PySem.GErr.ErrTxt K mg n C fI) (hd : H dd = some (.xd (subj v))) (k : PySem.W.kitOne K (.ref C) cv = some b) (hc : ClsV c cv) (q : Q (.bl b) H) : rIsX K mg a (.ref C) (some dd) [.ref a, c] H Q :=
  ⟨n, C, fI, dd, v, c, cv, b, rfl, rfl, T, rfl, hd, hc, k, q⟩
/-! ### e.subject -/
def rSubj (K : PySem.W.Frag) (mg : Str → Option Value) (a : Addr) (cls : Value) (d : Option Addr) (x : V) (H : Hp) (Q : VK) : Prop := x = .ref a ∧ ∃ (n : Str) (C fI dd : Addr) (v : V), cls = .ref C ∧ PySem.GErr.ErrTxt K mg n C fI ∧ d = some dd ∧ H dd = some (.xd (subj v)) ∧ Q v H
theorem st_subj {a : Addr} {cls : Value} {d : Option Addr} (h : te σ H fun x H1 => rSubj K mg a cls d x H1 Q) : tSubj K mg a cls d te σ H Q := h
theorem v_subj {n : Str} {a C fI dd : Addr} (T : PySem.GErr.ErrTxt K mg n C fI) (hd : H dd = some (.xd (subj v))) (q : Q v H) : rSubj K mg a (.ref C) (some dd) (.ref a) H Q := ⟨rfl, n, C, fI, dd, v, rfl, T, rfl, hd, q⟩
/-! ### raise -/
def rRaise (C : Addr) (W : WX) (σ : L2.St) (vs : List V) (H : Hp) : Prop := ∃ v, vs = [v] ∧ ∀ d, H d = none → W (.ref C) (some d) σ (upd H d (.xd (subj v)))
theorem run_raise {C : Addr} {W : WX} (h : as σ H fun vs H1 => rRaise C W σ vs H1) : Run (tRaiseErr C W as) nx rt bk ct σ H := h
theorem v_raise {C : Addr} {W : WX} (h : ∀ d H2, H d = none → Ext H H2 → H2 d = some (.xd (subj v)) → W (.ref C) (some d) σ H2) : rRaise C W σ [v] H := ⟨v, rfl, fun d hd => h d _ hd (Ext.new hd) upd_same⟩
/-! ### try .. except C as n -/
theorem run_tryAs {K : PySem.W.Frag} {c : Value} {i : Nat} {ts : Addr → Obj → Value → Option Addr → List (Addr × Obj) → TS} {Wout : WX} {tb : WX → List (Addr × Obj) → (Value → Shared → Prop) → TS} (h : ∀ pn xe, Run (tb (wAs K c i (tAll ts) Wout ⟨nx, rt, bk, ct⟩) pn xe) nx rt bk ct σ H) :
    Run (tTryAs K c i ts Wout tb) nx rt bk ct σ H := h
theorem run_tryOnly {K : PySem.W.Frag} {c : Value} {ts : Addr → Obj → Value → Option Addr → List (Addr × Obj) → TS} {Wout : WX} {tb : WX → List (Addr × Obj) → (Value → Shared → Prop) → TS} (h : ∀ pn xe, Run (tb (wOnly K c (tAll ts) Wout ⟨nx, rt, bk, ct⟩) pn xe) nx rt bk ct σ H) :
    Run (tTryOnly K c ts Wout tb) nx rt bk ct σ H := h
theorem w_only {K : PySem.W.Frag} {c cls : Value} {d : Option Addr} {ts : Addr → Obj → Value → Option Addr → List (Addr × Obj) → TS} {Wout : WX} (hm : PySem.W.exmOne K cls c = some true)
    (q : ∀ a oe pn, H a = none → Run (ts a oe cls d pn) nx rt bk ct σ H) : wOnly K c (tAll ts) Wout ⟨nx, rt, bk, ct⟩ cls d σ H :=
  ⟨true, hm, fun _ a ha oe pn => q a oe pn ha, fun z => nomatch z⟩
theorem w_as {K : PySem.W.Frag} {c cls : Value} {i : Nat} {d : Option Addr} {ts : Addr → Obj → Value → Option Addr → List (Addr × Obj) → TS} {Wout : WX} (hm : PySem.W.exmOne K cls c = some true)
    (q : ∀ a oe pn, H a = none → Kont (fun σ1 H1 => Run (ts a oe cls d pn) (fun σ' H' => Kont nx σ' i none H') rt (fun σ' H' => Kont bk σ' i none H') (fun σ' H' => Kont ct σ' i none H') σ1 H1) σ i (some (.ref a)) H) : wAs K c i (tAll ts) Wout ⟨nx, rt, bk, ct⟩ cls d σ H :=
  ⟨true, hm, fun _ a ha oe pn => q a oe pn ha, fun z => nomatch z⟩
/-! ### C(..) -/
def rMk (C : Addr) (sp : Sp) (E : XK) (vs : List V) (H : Hp) (Q : VK) : Prop := ∀ x dx, H x = none → H dx = none → dx ≠ x → sp (.ref x :: vs) (upd (upd H dx (.own x)) x (.ins C dx [])) (fun v H2 => v = .non ∧ Q (.ref x) H2) E
theorem st_mk {C : Addr} {dvs : List V} (h : as σ H fun vs H1 => rMk C sp (E σ) (vs ++ dvs) H1 Q) : tMkS C sp dvs E as σ H Q := h
/-- the new instance: what was stays, the instance is x -/
theorem v_mk {C : Addr} {vs : List V} {E : XK} (h : ∀ x dx H1, H x = none → Ext H H1 → H1 x = some (.ins C dx []) → sp (.ref x :: vs) H1 (fun v H2 => v = .non ∧ Q (.ref x) H2) E) : rMk C sp E vs H Q := fun x dx hx hd hn =>
  h x dx _ hx (fun a o e => by rw [upd_ne (ne_of_none e hx), upd_ne (ne_of_none e hd)]; exact e) upd_same
/-! ### list(range(..)) -/
def rLstRg (a b : Int) (H : Hp) (Q : VK) : Prop := RgOk a b ∧ ∀ q, H q = none → Q (.ref q) (upd H q (.lst (rgV a b)))
def rRg2 (x y : V) (H : Hp) (Q : Int → Int → Hp → Prop) : Prop := ∃ i j, x = .int i ∧ y = .int j ∧ Q i j H
theorem st_lstRg2 (h : ta σ H fun x H1 => tb σ H1 fun y H2 => rRg2 x y H2 fun a b H3 => rLstRg a b H3 Q) : tLstRg (tRg2 ta tb) σ H Q := h
theorem v_rg2 {Q : Int → Int → Hp → Prop} (q : Q i j H) : rRg2 (.int i) (.int j) H Q := ⟨i, j, rfl, rfl, q⟩
theorem v_lstRg (hr : RgOk i j) (h : ∀ p H2, H p = none → Ext H H2 → H2 p = some (.lst (rgV i j)) → Q (.ref p) H2) : rLstRg i j H Q := ⟨hr, fun p hp => h p _ hp (Ext.new hp) upd_same⟩
/-! ### own operators -/
theorem v_own {C a b dx dy : Addr} {fs gs : List (Str × V)} (ha : H a = some (.ins C dx fs)) (hb : H b = some (.ins C dy gs)) (q : sp [.ref a, .ref b] H Q (E σ)) : rOwn C sp E σ (.ref a) (.ref b) H Q := ⟨a, dx, fs, b, dy, gs, rfl, ha, rfl, hb, q⟩
theorem v_ownI {C a dx : Addr} {fs : List (Str × V)} (ha : H a = some (.ins C dx fs)) (q : sp [.ref a, .int i] H Q (E σ)) : rOwnI C sp E σ (.ref a) (.int i) H Q := ⟨a, dx, fs, i, rfl, ha, rfl, q⟩
theorem v_ownIn {C a dx : Addr} {fs : List (Str × V)} (ha : H a = some (.ins C dx fs)) (q : sp [.ref a, y] H (fun v H' => rTest v H' fun c H' => Q (.bl c) H') (E σ)) : rOwnIn C sp E σ y (.ref a) H Q := ⟨a, dx, fs, rfl, ha, q⟩
theorem v_own1 {C a dx : Addr} {fs : List (Str × V)} (ha : H a = some (.ins C dx fs)) (q : sp [.ref a] H Q (E σ)) : rOwn1 C sp E σ (.ref a) H Q := ⟨a, dx, fs, rfl, ha, q⟩
theorem v_ownC {C a dx : Addr} {fs : List (Str × V)} (ha : H a = some (.ins C dx fs)) (q : sp [.ref a] H Q (E σ)) : rOwnC C sp E σ [.ref a] H Q := ⟨a, dx, fs, rfl, ha, q⟩
theorem v_ownB {C a dx : Addr} {fs : List (Str × V)} (ha : H a = some (.ins C dx fs)) (q : sp [.ref a] H (fun v H' => rTest v H' fun c H' => Q (.bl c) H') (E σ)) : rOwnB C sp E σ [.ref a] H Q := ⟨a, dx, fs, rfl, ha, q⟩
theorem v_ownLen {C a dx : Addr} {fs : List (Str × V)} (ha : H a = some (.ins C dx fs)) (q : sp [.ref a] H (fun v H' => ∃ n : Int, v = .int n ∧ 0 ≤ n ∧ n < 2 ^ 63 ∧ Q (.int n) H') (E σ)) : rOwnLen C sp E σ [.ref a] H Q := ⟨a, dx, fs, rfl, ha, q⟩
/-! ### targets -/
theorem g_name {n : Nat} {k : L2.St → Hp → Prop} (h : k (σ.set n (some v)) H) : gName n v σ H k := h
theorem g_tup {a : Addr} {xs : List V} {n : Nat} {tg : TGs} {k : L2.St → Hp → Prop} (ha : H a = some (.tup xs)) (hl : xs.length = n) (h : tg xs σ H k) : gTup K n tg (.ref a) σ H k := ⟨a, xs, rfl, SqT.of ha, hl, h⟩
theorem g_cons {xs : List V} {g : TG} {tg : TGs} {k : L2.St → Hp → Prop} (h : g v σ H fun σ' H' => tg xs σ' H' k) : gCons g tg (v :: xs) σ H k := ⟨v, xs, rfl, h⟩
theorem g_nil {k : L2.St → Hp → Prop} (h : k σ H) : gNil [] σ H k := ⟨rfl, h⟩
/-! ### for -/
def rFor (J : It) (g : TG) (t : TS) (nx : L2.St → Hp → Prop) (rt : VK) (bk ct : L2.St → Hp → Prop) (σ : L2.St) (H : Hp) : Prop := ∃ W : Nat → Nat → L2.St → Hp → Prop, (∃ m, W 0 m σ H) ∧ ∀ i m σ H, W i m σ H →
  (J.stop i H ∧ nx σ H) ∨ (J.go i H ∧ ∃ N : L2.St → Hp → Prop, (∀ σ' H', N σ' H' → ∃ m', m' < m ∧ W (i + 1) m' σ' H') ∧ ∀ x H', J.yld i H x H' → g x σ H' fun σ2 H2 => t ⟨N, rt, nx, N⟩ σ2 H2)
theorem run_for {wi : TI} {g : TG} (h : wi σ H fun J H1 => rFor J g t nx rt bk ct σ H1) : Run (tFor wi g t) nx rt bk ct σ H := h
def rRng1 (vs : List V) (H : Hp) (R : It → Hp → Prop) : Prop := ∃ j : Int, vs = [.int j] ∧ -(2 ^ 62) ≤ j ∧ j < 2 ^ 62 ∧ R (Itr 0 j.toNat) H
def rRng2 (vs : List V) (H : Hp) (R : It → Hp → Prop) : Prop := ∃ i j : Int, vs = [.int i, .int j] ∧ (-(2 ^ 62) ≤ i ∧ i < 2 ^ 62 ∧ -(2 ^ 62) ≤ j ∧ j < 2 ^ 62) ∧ R (Itr i (j - i).toNat) H
def rSeqL (K : PySem.W.Frag) (x : V) (H : Hp) (R : It → Hp → Prop) : Prop := ∃ a, x = .ref a ∧ (∃ xs, SqL K H a xs) ∧ R (Itl K a) H
def rSeqT (K : PySem.W.Frag) (x : V) (H : Hp) (R : It → Hp → Prop) : Prop := ∃ a, x = .ref a ∧ (∃ xs, SqT K H a xs) ∧ R (Itt K a) H
theorem i_rng1 {R : It → Hp → Prop} (h : as σ H fun vs H1 => rRng1 vs H1 R) : iRng1 as σ H R := h
theorem i_rng2 {R : It → Hp → Prop} (h : as σ H fun vs H1 => rRng2 vs H1 R) : iRng2 as σ H R := h
theorem i_list {R : It → Hp → Prop} (h : te σ H fun x H1 => rSeqL K x H1 R) : iList K te σ H R := h
theorem i_tup {R : It → Hp → Prop} (h : te σ H fun x H1 => rSeqT K x H1 R) : iTup K te σ H R := h
theorem r_rng1 {R : It → Hp → Prop} (h0 : -1000000 ≤ j) (h1 : j ≤ 1000000) (q : R (Itr 0 j.toNat) H) : rRng1 [.int j] H R := ⟨j, rfl, by omega, by omega, q⟩
theorem r_rng2 {R : It → Hp → Prop} (h0 : -1000000 ≤ i) (h1 : i ≤ 1000000) (h2 : -1000000 ≤ j) (h3 : j ≤ 1000000) (q : R (Itr i (j - i).toNat) H) : rRng2 [.int i, .int j] H R := ⟨i, j, rfl, ⟨by omega, by omega, by omega, by omega⟩, q⟩
theorem r_seqL {R : It → Hp → Prop} {a : Addr} {xs : List V} (ha : H a = some (.lst xs)) (q : R (Itl K a) H) : rSeqL K (.ref a) H R := ⟨a, rfl, ⟨xs, SqL.of ha⟩, q⟩
theorem r_seqLK {R : It → Hp → Prop} {a : Addr} {xs : List V} (ha : SqL K H a xs) (q : R (Itl K a) H) : rSeqL K (.ref a) H R := ⟨a, rfl, ⟨xs, ha⟩, q⟩
theorem r_seqT {R : It → Hp → Prop} {a : Addr} {xs : List V} (ha : H a = some (.tup xs)) (q : R (Itt K a) H) : rSeqT K (.ref a) H R := ⟨a, rfl, ⟨xs, SqT.of ha⟩, q⟩
/-- a range, by a word of the turn -/
theorem f_range {lo : Int} {n : Nat} {g : TG} (Pv : Nat → L2.St → Hp → Prop) (h0 : Pv 0 σ H) (hs : ∀ i σ H, i < n → Pv i σ H → g (.int (lo + i)) σ H fun σ2 H2 => Run t (Pv (i + 1)) rt nx (Pv (i + 1)) σ2 H2) (hd : ∀ σ H, Pv n σ H → nx σ H) :
    rFor (Itr lo n) g t nx rt bk ct σ H := for_range (D := ⟨nx, rt, bk, ct⟩) Pv h0 hs hd
/-- range(n) from 0 -/
theorem f_range0 {n : Nat} {g : TG} (Pv : Nat → L2.St → Hp → Prop) (h0 : Pv 0 σ H) (hs : ∀ (i : Nat) σ H, i < n → Pv i σ H → g (.int (i : Int)) σ H fun σ2 H2 => Run t (Pv (i + 1)) rt nx (Pv (i + 1)) σ2 H2) (hd : ∀ σ H, Pv n σ H → nx σ H) :
    rFor (Itr 0 n) g t nx rt bk ct σ H := f_range Pv h0 (fun i σ H hi p => by rw [show (0 : Int) + (i : Int) = (i : Int) by omega]; exact hs i σ H hi p) hd
theorem v_ixLn {a : Addr} {xs : List V} {n : Nat} (ha : H a = some (.lst xs)) (h : xs[n]? = some v) (q : Q v H) : uIx K (.ref a) (.int (n : Int)) H Q := v_ixL ha (by omega) h q
theorem v_setN {a : Addr} {xs : List V} {n : Nat} {k : Hp → Prop} (ha : H a = some (.lst xs)) (h : n < xs.length) (q : ∀ H2, But a H H2 → H2 a = some (.lst (xs.set n v)) → k H2) : uSet (.ref a) (.int (n : Int)) v H k := v_set ha (by omega) h q
theorem f_list {a : Addr} {xs : List V} {g : TG} (Pv : Nat → L2.St → Hp → Prop) (h0 : Pv 0 σ H) (hl : ∀ i σ H, i ≤ xs.length → Pv i σ H → SqL K H a xs) (hs : ∀ i x σ H, xs[i]? = some x → Pv i σ H → g x σ H fun σ2 H2 => Run t (Pv (i + 1)) rt nx (Pv (i + 1)) σ2 H2)
    (hd : ∀ σ H, Pv xs.length σ H → nx σ H) : rFor (Itl K a) g t nx rt bk ct σ H := for_list (D := ⟨nx, rt, bk, ct⟩) Pv h0 hl hs hd
theorem f_tup {a : Addr} {xs : List V} {g : TG} (Pv : Nat → L2.St → Hp → Prop) (h0 : Pv 0 σ H) (hl : ∀ i σ H, i ≤ xs.length → Pv i σ H → SqT K H a xs) (hs : ∀ i x σ H, xs[i]? = some x → Pv i σ H → g x σ H fun σ2 H2 => Run t (Pv (i + 1)) rt nx (Pv (i + 1)) σ2 H2)
    (hd : ∀ σ H, Pv xs.length σ H → nx σ H) : rFor (Itt K a) g t nx rt bk ct σ H := for_tup (D := ⟨nx, rt, bk, ct⟩) Pv h0 hl hs hd
/-! ### [e for x in ..], without an if -/
def rLc (J : It) (g : TG) (tt : TT) (te : TE) (vs : List Nat) (σ : L2.St) (H1 : Hp) (Q : VK) : Prop := ∀ D, H1 D = none → ∃ W : Nat → Nat → Hp → Prop, (∃ m, W 0 m (upd H1 D (.lst []))) ∧ ∀ i m H, W i m H →
  (J.stop i H ∧ Q (.ref D) H) ∨ (J.go i H ∧ ∃ Nx : Hp → Prop, (∀ H', Nx H' → ∃ m', m' < m ∧ W (i + 1) m' H') ∧ ∀ x H', J.yld i H x H' → g x (wipe σ vs) H' fun σ2 H2 => wipe σ2 vs = wipe σ vs ∧ tt σ2 H2 fun b H3 =>
    if b = true then te σ2 H3 fun y H4 => ∃ acc, H4 D = some (.lst acc) ∧ acc.length < sizeLine ∧ Nx (upd H4 D (.lst (acc ++ [y]))) else Nx H3)
theorem st_lc {wi : TI} {g : TG} {vs : List Nat} (h : wi σ H fun J H1 => rLc J g tt te vs σ H1 Q) : tLc wi g tt te vs σ H Q := h
/-- one item more at D -/
def rAcc (D : Addr) (k : Hp → Prop) (y : V) (H : Hp) : Prop := ∃ acc, H D = some (.lst acc) ∧ acc.length < sizeLine ∧ k (upd H D (.lst (acc ++ [y])))
/-- D holds acc, n items, of which Pv -/
def LcAt (D : Addr) (n : Nat) (Pv : List V → Hp → Prop) (H : Hp) : Prop := ∃ acc, H D = some (.lst acc) ∧ acc.length = n ∧ Pv acc H
theorem v_acc {D : Addr} {n : Nat} {acc : List V} {Pv : List V → Hp → Prop} (ha : H D = some (.lst acc)) (hl : acc.length = n) (hz : n < 1000000) (q : ∀ H2, But D H H2 → H2 D = some (.lst (acc ++ [y])) → Pv (acc ++ [y]) H2) : rAcc D (LcAt D (n + 1) Pv) y H :=
  ⟨acc, ha, by rw [hl]; exact Nat.lt_of_lt_of_le hz (by decide), acc ++ [y], upd_same, by rw [List.length_append, hl]; rfl, q _ But.upd upd_same⟩
theorem lc_rng {lo : Int} {n : Nat} {g : TG} {vs : List Nat} (Pv : Nat → Addr → List V → Hp → Prop) (h0 : ∀ D H1, H D = none → Ext H H1 → H1 D = some (.lst []) → Pv 0 D [] H1)
    (hs : ∀ i D acc H1, H D = none → i < n → H1 D = some (.lst acc) → acc.length = i → Pv i D acc H1 → g (.int (lo + i)) (wipe σ vs) H1 fun σ2 H2 => wipe σ2 vs = wipe σ vs ∧ te σ2 H2 fun y H4 => rAcc D (LcAt D (i + 1) (Pv (i + 1) D)) y H4)
    (hd : ∀ D acc H1, H D = none → H1 D = some (.lst acc) → acc.length = n → Pv n D acc H1 → Q (.ref D) H1) : rLc (Itr lo n) g tYes te vs σ H Q := by
  intro D hD
  refine lc_range (Pv := fun i H1 => LcAt D i (Pv i D) H1) ⟨[], upd_same, rfl, h0 D _ hD (Ext.new hD) upd_same⟩ ?_ ?_
  · rintro i H1 hi ⟨acc, ha, hl, hp⟩
    exact hs i D acc H1 hD hi ha hl hp
  · rintro H1 ⟨acc, ha, hl, hp⟩
    exact hd D acc H1 hD ha hl hp
theorem lc_lst {a : Addr} {xs : List V} {g : TG} {vs : List Nat} (Pv : Nat → Addr → List V → Hp → Prop) (h0 : ∀ D H1, H D = none → Ext H H1 → H1 D = some (.lst []) → Pv 0 D [] H1)
    (hl : ∀ i D acc H1, H D = none → i ≤ xs.length → Pv i D acc H1 → SqL K H1 a xs)
    (hs : ∀ i x D acc H1, H D = none → xs[i]? = some x → H1 D = some (.lst acc) → acc.length = i → Pv i D acc H1 → g x (wipe σ vs) H1 fun σ2 H2 => wipe σ2 vs = wipe σ vs ∧ te σ2 H2 fun y H4 => rAcc D (LcAt D (i + 1) (Pv (i + 1) D)) y H4)
    (hd : ∀ D acc H1, H D = none → H1 D = some (.lst acc) → acc.length = xs.length → Pv xs.length D acc H1 → Q (.ref D) H1) : rLc (Itl K a) g tYes te vs σ H Q := by
  intro D hD
  refine lc_list (xs := xs) (Pv := fun i H1 => LcAt D i (Pv i D) H1) ⟨[], upd_same, rfl, h0 D _ hD (Ext.new hD) upd_same⟩ ?_ ?_ ?_
  · rintro i H1 hi ⟨acc, ha, hl', hp⟩
    exact hl i D acc H1 hD hi hp
  · rintro i x H1 hi ⟨acc, ha, hl', hp⟩
    exact hs i x D acc H1 hD hi ha hl' hp
  · rintro H1 ⟨acc, ha, hl', hp⟩
    exact hd D acc H1 hD ha hl' hp
end
end GG

/-! GU: the steps that ask nothing, found by instances. -/
namespace GG
open PySem L2 PyProof.Rows
class St1 (P : Prop) (P' : outParam Prop) : Prop where
  h : P' → P
class StN (P : Prop) (P' : outParam Prop) : Prop where
  h : P' → P
class StP (P : Prop) (P' : outParam Prop) : Prop where
  h : P' → P
instance (priority := low) stn_rfl {P : Prop} : StN P P := ⟨id⟩
instance stn_step {P P1 P' : Prop} [a : St1 P P1] [b : StN P1 P'] : StN P P' := ⟨fun h => a.h (b.h h)⟩
instance stp_step {P P1 P' : Prop} [a : St1 P P1] [b : StN P1 P'] : StP P P' := ⟨fun h => a.h (b.h h)⟩
/-- the value in a slot -/
class Slot1 (σ : L2.St) (i : Nat) (v : outParam V) : Prop where
  h : σ[i]? = some (some v)
instance slot_here {v : V} {σ : L2.St} : Slot1 (some v :: σ) 0 v := ⟨rfl⟩
instance slot_next {x : Option V} {σ : L2.St} {i : Nat} {v : V} [a : Slot1 σ i v] : Slot1 (x :: σ) (i + 1) v := ⟨a.h⟩
/-- a slot set -/
class SetS (σ : L2.St) (i : Nat) (v : Option V) (σ' : outParam L2.St) : Prop where
  h : σ.set i v = σ'
instance set_here {x v : Option V} {σ : L2.St} : SetS (x :: σ) 0 v (v :: σ) := ⟨rfl⟩
instance set_next {x v : Option V} {σ σ' : L2.St} {i : Nat} [a : SetS σ i v σ'] : SetS (x :: σ) (i + 1) v (x :: σ') := ⟨by rw [List.set_cons_succ, a.h]⟩
section
variable {K : PySem.W.Frag} {mg : Str → Option Value} {nx bk ct : L2.St → Hp → Prop} {rt : VK} {σ σ' : L2.St} {H : Hp} {t u : TS} {te ta tb tc : TE} {tt tu : TT} {as tr : TA} {Q : VK} {QB : Bool → Hp → Prop} {QA : List V → Hp → Prop} {v x y : V} {E : L2.St → XK} {sp : Sp} {i j : Int} {n : Nat} {b : Bool} {A B : Prop}
/-- the statements behind, by a name -/
theorem run_seqG (h : ∀ r, r = u → Run t (fun σ' H' => Run r nx rt bk ct σ' H') rt bk ct σ H) : Run (tSeq t u) nx rt bk ct σ H := h u rfl
theorem run_rest (r : TS) (h : Run r nx rt bk ct σ H) : Run r nx rt bk ct σ H := h
instance i_next : St1 (Run tNext nx rt bk ct σ H) (nx σ H) := ⟨run_next⟩
instance i_asg : St1 (Run (tAsg te (gName n)) nx rt bk ct σ H) (te σ H fun x H1 => Kont nx σ n (some x) H1) := ⟨fun h => h⟩
instance i_kont {v : Option V} [a : SetS σ n v σ'] : St1 (Kont nx σ n v H) (nx σ' H) := ⟨fun h => by unfold Kont; rw [a.h]; exact h⟩
instance i_asgS {T : TSet} : St1 (Run (tAsg te (gSub ta tb T)) nx rt bk ct σ H) (te σ H fun x H1 => ta σ H1 fun o H2 => tb σ H2 fun i H3 => T o i x H3 fun H4 => nx σ H4) := ⟨fun h => h⟩
instance i_asgT {n : Nat} {tg : TGs} : St1 (Run (tAsg te (gTup K n tg)) nx rt bk ct σ H) (te σ H fun x H1 => gTup K n tg x σ H1 nx) := ⟨fun h => h⟩
instance i_drop : St1 (Run (tDrop te) nx rt bk ct σ H) (te σ H fun _ H1 => nx σ H1) := ⟨fun h => h⟩
instance i_ret : St1 (Run (tRet te) nx rt bk ct σ H) (te σ H rt) := ⟨fun h => h⟩
instance i_retN : St1 (Run tRetN nx rt bk ct σ H) (rt .non H) := ⟨fun h => h⟩
instance i_break : St1 (Run tBreak nx rt bk ct σ H) (bk σ H) := ⟨fun h => h⟩
instance i_cont : St1 (Run tCont nx rt bk ct σ H) (ct σ H) := ⟨fun h => h⟩
instance i_ifS : St1 (Run (tIfS tt t u) nx rt bk ct σ H) (tt σ H fun b H1 => Br b (Run t nx rt bk ct σ H1) (Run u nx rt bk ct σ H1)) := ⟨fun h => h⟩
instance i_par {n m : Nat} : St1 (Run (tPar n m as) nx rt bk ct σ H) (as σ H fun vs H1 => ∃ v w, vs = [v, w] ∧ nx ((σ.set n (some v)).set m (some w)) H1) := ⟨fun h => h⟩
instance i_fldS {f : Str} : St1 (Run (sFld K ta tb f) nx rt bk ct σ H) (tb σ H fun y H1 => ta σ H1 fun x H2 => rPutF K f x y H2 (nx σ)) := ⟨fun h => h⟩
instance i_raise {C : Addr} {W : WX} : St1 (Run (tRaiseErr C W as) nx rt bk ct σ H) (as σ H fun vs H1 => rRaise C W σ vs H1) := ⟨fun h => h⟩
instance i_for {wi : TI} {g : TG} : St1 (Run (tFor wi g t) nx rt bk ct σ H) (wi σ H fun J H1 => rFor J g t nx rt bk ct σ H1) := ⟨fun h => h⟩
instance i_brT : St1 (Br true A B) A := ⟨br_t⟩
instance i_brF : St1 (Br false A B) B := ⟨br_f⟩
instance i_brN : St1 (Br (!b) A B) (Br b B A) := ⟨br_not⟩
instance i_brE {α : Type} {a : α} {d : Decidable (a = a)} : St1 (Br (@decide (a = a) d) A B) A := ⟨fun h => by rw [decide_eq_true rfl]; exact br_t h⟩
instance i_brE2 {α β : Type} {a : α} {b : β} {d : Decidable (a = a ∧ b = b)} : St1 (Br (@decide (a = a ∧ b = b) d) A B) A := ⟨fun h => by rw [decide_eq_true ⟨rfl, rfl⟩]; exact br_t h⟩
theorem br_andJ {A B : Prop} [Decidable A] [Decidable B] (h2 : ∀ Q' : VK, Q' (.bl (decide B)) H → tb σ H Q') (q : Q (.bl (decide (A ∧ B))) H) : Br (decide A) (tb σ H Q) (Q (.bl false) H) := br_d (fun a => h2 _ (by rw [dec_congr (q := A ∧ B) ⟨fun b => ⟨a, b⟩, fun z => z.2⟩]; exact q)) (fun a => by rw [← decide_eq_false (p := A ∧ B) fun z => a z.1]; exact q)
theorem br_orJ {A B : Prop} [Decidable A] [Decidable B] (h2 : ∀ Q' : VK, Q' (.bl (decide B)) H → tb σ H Q') (q : Q (.bl (decide (A ∨ B))) H) : Br (decide A) (Q (.bl true) H) (tb σ H Q) := br_d (fun a => by rw [← decide_eq_true (p := A ∨ B) (.inl a)]; exact q) (fun a => h2 _ (by rw [dec_congr (q := A ∨ B) ⟨fun b => .inr b, fun z => z.resolve_left a⟩]; exact q))
/-- the slots of a comprehension's names, empty -/
class WipeS (σ : L2.St) (vs : List Nat) (σ' : outParam L2.St) : Prop where
  h : wipe σ vs = σ'
instance wipe_nil : WipeS σ [] σ := ⟨rfl⟩
instance wipe_cons {n : Nat} {vs : List Nat} {σ1 σ2 : L2.St} [a : WipeS σ vs σ1] [b : SetS σ1 n none σ2] : WipeS σ (n :: vs) σ2 := ⟨by show (wipe σ vs).set n none = σ2; rw [a.h, b.h]⟩
instance i_var [a : Slot1 σ n v] : St1 (tVar n σ H Q) (Q v H) := ⟨fun h => ⟨v, a.h, h⟩⟩
instance i_c : St1 (tC v σ H Q) (Q v H) := ⟨fun h => h⟩
instance i_op {r : R2} : St1 (tOp r ta tb σ H Q) (ta σ H fun x H1 => tb σ H1 fun y H2 => r x y H2 Q) := ⟨fun h => h⟩
instance i_opS {r : R2S} : St1 (tOpS r ta tb σ H Q) (ta σ H fun x H1 => tb σ H1 fun y H2 => r σ x y H2 Q) := ⟨fun h => h⟩
instance i_un {r : V → Hp → VK → Prop} : St1 (tUn r ta σ H Q) (ta σ H fun x H1 => r x H1 Q) := ⟨fun h => h⟩
instance i_unS {r : L2.St → V → Hp → VK → Prop} : St1 (tUnS r ta σ H Q) (ta σ H fun x H1 => r σ x H1 Q) := ⟨fun h => h⟩
instance i_nil : St1 (tNil σ H QA) (QA [] H) := ⟨fun h => h⟩
instance i_cons : St1 (tCons ta tr σ H QA) (ta σ H fun x H1 => tr σ H1 fun xs H2 => QA (x :: xs) H2) := ⟨fun h => h⟩
instance i_cb {r : List V → Hp → VK → Prop} : St1 (tCB r as σ H Q) (as σ H fun vs H1 => r vs H1 Q) := ⟨fun h => h⟩
instance i_cbS {r : L2.St → List V → Hp → VK → Prop} : St1 (tCBS r as σ H Q) (as σ H fun vs H1 => r σ vs H1 Q) := ⟨fun h => h⟩
/-- the arguments with the defaults -/
class AppV (vs ds : List V) (ws : outParam (List V)) : Prop where
  h : vs ++ ds = ws
instance app_nil {ds : List V} : AppV [] ds ds := ⟨rfl⟩
instance app_cons {vs ds ws : List V} [a : AppV vs ds ws] : AppV (v :: vs) ds (v :: ws) := ⟨by rw [List.cons_append, a.h]⟩
def SpAt (sp : Sp) (dvs vs : List V) (H : Hp) (Q : VK) (E : XK) : Prop := sp (vs ++ dvs) H Q E
instance i_fn {dvs : List V} : St1 (tCallSD sp dvs E as σ H Q) (as σ H fun vs H1 => SpAt sp dvs vs H1 Q (E σ)) := ⟨fun h => h⟩
instance i_sp {dvs vs ws : List V} {E : XK} [a : AppV vs dvs ws] : St1 (SpAt sp dvs vs H Q E) (sp ws H Q E) := ⟨fun h => by unfold SpAt; rw [a.h]; exact h⟩
def MkAt (C : Addr) (sp : Sp) (dvs vs : List V) (H : Hp) (Q : VK) (E : XK) : Prop := rMk C sp E (vs ++ dvs) H Q
instance i_mk {C : Addr} {dvs : List V} : St1 (tMkS C sp dvs E as σ H Q) (as σ H fun vs H1 => MkAt C sp dvs vs H1 Q (E σ)) := ⟨fun h => h⟩
instance i_mkA {C : Addr} {dvs vs ws : List V} {E : XK} [a : AppV vs dvs ws] : St1 (MkAt C sp dvs vs H Q E) (rMk C sp E ws H Q) := ⟨fun h => by unfold MkAt; rw [a.h]; exact h⟩
instance i_tupE : St1 (tTup as σ H Q) (as σ H fun xs H1 => rTup xs H1 Q) := ⟨fun h => h⟩
instance i_lstE : St1 (tLst as σ H Q) (as σ H fun xs H1 => rLst xs H1 Q) := ⟨fun h => h⟩
instance i_fld {f : Str} : St1 (tFld K ta f σ H Q) (ta σ H fun x H1 => rFld K f x H1 Q) := ⟨fun h => h⟩
instance i_test : St1 (tTest te σ H QB) (te σ H fun x H' => rTest x H' QB) := ⟨fun h => h⟩
instance i_testB : St1 (rTest (.bl b) H QB) (QB b H) := ⟨r_test⟩
instance i_tru : St1 (tTru K te σ H QB) (te σ H fun x H' => rTru K x H' QB) := ⟨fun h => h⟩
instance i_truB : St1 (rTru K (.bl b) H QB) (QB b H) := ⟨r_truB⟩
instance i_not : St1 (tNot tt σ H QB) (tt σ H fun c H1 => QB (!c) H1) := ⟨fun h => h⟩
instance i_and : St1 (tAnd tt tu σ H QB) (tt σ H fun c H1 => Br c (tu σ H1 QB) (QB false H1)) := ⟨fun h => h⟩
instance i_or : St1 (tOr tt tu σ H QB) (tt σ H fun c H1 => Br c (QB true H1) (tu σ H1 QB)) := ⟨fun h => h⟩
instance i_andV : St1 (tAndV ta tb σ H Q) (ta σ H fun x H1 => rAndV tb σ x H1 Q) := ⟨fun h => h⟩
instance i_orV : St1 (tOrV ta tb σ H Q) (ta σ H fun x H1 => rOrV tb σ x H1 Q) := ⟨fun h => h⟩
instance i_notV : St1 (tNotV ta σ H Q) (ta σ H fun x H1 => rNotV x H1 Q) := ⟨fun h => h⟩
instance i_andB : St1 (rAndV tb σ (.bl b) H Q) (Br b (tb σ H Q) (Q (.bl false) H)) := ⟨r_andV⟩
instance i_orB : St1 (rOrV tb σ (.bl b) H Q) (Br b (Q (.bl true) H) (tb σ H Q)) := ⟨r_orV⟩
instance i_notB : St1 (rNotV (.bl b) H Q) (Q (.bl (!b)) H) := ⟨r_notV⟩
instance i_ifE : St1 (tIf tt ta tb σ H Q) (tt σ H fun c H1 => Br c (ta σ H1 Q) (tb σ H1 Q)) := ⟨fun h => h⟩
instance i_chain {r r' : R2} : St1 (tChain r r' ta tb tc σ H Q) (ta σ H fun x H1 => tb σ H1 fun y H2 => r x y H2 fun z H3 => rChain r' tc σ y z H3 Q) := ⟨fun h => h⟩
instance i_chainB {r' : R2} : St1 (rChain r' tc σ y (.bl b) H Q) (Br b (tc σ H fun w' H4 => r' y w' H4 Q) (Q (.bl false) H)) := ⟨r_chain⟩
instance j_add : St1 (uAdd K (.int i) (.int j) H Q) (Q (.int (i + j)) H) := ⟨v_add⟩
instance j_sub : St1 (uSub (.int i) (.int j) H Q) (Q (.int (i - j)) H) := ⟨v_sub⟩
instance j_lt : St1 (uLt (.int i) (.int j) H Q) (Q (.bl (decide (i < j))) H) := ⟨v_lt⟩
instance j_le : St1 (uLe (.int i) (.int j) H Q) (Q (.bl (decide (i ≤ j))) H) := ⟨v_le⟩
instance j_gt : St1 (uGt (.int i) (.int j) H Q) (Q (.bl (decide (j < i))) H) := ⟨v_gt⟩
instance j_ge : St1 (uGe (.int i) (.int j) H Q) (Q (.bl (decide (j ≤ i))) H) := ⟨v_ge⟩
instance j_eq : St1 (uEq K (.int i) (.int j) H Q) (Q (.bl (decide (i = j))) H) := ⟨v_eq⟩
instance j_ne : St1 (uNe K (.int i) (.int j) H Q) (Q (.bl (!decide (i = j))) H) := ⟨v_ne⟩
instance j_eqB {b b' : Bool} : St1 (uEq K (.bl b) (.bl b') H Q) (Q (.bl (decide (b = b'))) H) := ⟨v_eqB⟩
instance j_neB {b b' : Bool} : St1 (uNe K (.bl b) (.bl b') H Q) (Q (.bl (!decide (b = b'))) H) := ⟨v_neB⟩
instance j_eqS {z z' : Str} : St1 (uEq K (.str z) (.str z') H Q) (Q (.bl (decide (z = z'))) H) := ⟨v_eqS⟩
instance j_neS {z z' : Str} : St1 (uNe K (.str z) (.str z') H Q) (Q (.bl (!decide (z = z'))) H) := ⟨v_neS⟩
instance j_neg : St1 ((rU fun i => .int (-i)) (.int i) H Q) (Q (.int (-i)) H) := ⟨v_neg⟩
instance j_int : St1 (cInt [.int i] H Q) (Q (.int i) H) := ⟨v_int⟩
instance j_intB : St1 (cInt [.bl b] H Q) (Q (.int (if b then 1 else 0)) H) := ⟨v_intB⟩
instance j_bool : St1 (cBool [.bl b] H Q) (Q (.bl b) H) := ⟨v_boolB⟩
instance j_min : St1 (cMin2 [.int i, .int j] H Q) (Q (.int (min i j)) H) := ⟨v_min2⟩
instance j_max : St1 (cMax2 [.int i, .int j] H Q) (Q (.int (max i j)) H) := ⟨v_max2⟩
instance j_abs : St1 (cAbs [.int i] H Q) (Q (.int (if i < 0 then -i else i)) H) := ⟨v_abs⟩
instance j_isII : St1 (rIsi K [.int i, .ty "int"] H Q) (Q (.bl true) H) := ⟨v_isII⟩
instance j_isIB : St1 (rIsi K [.int i, .ty "bool"] H Q) (Q (.bl false) H) := ⟨v_isIB⟩
instance j_isBB : St1 (rIsi K [.bl b, .ty "bool"] H Q) (Q (.bl true) H) := ⟨v_isBB⟩
instance i_subj {a : Addr} {cls : Value} {d : Option Addr} : St1 (tSubj K mg a cls d te σ H Q) (te σ H fun x H1 => rSubj K mg a cls d x H1 Q) := ⟨fun h => h⟩
instance i_lstRg2 : St1 (tLstRg (tRg2 ta tb) σ H Q) (ta σ H fun x H1 => tb σ H1 fun y H2 => rRg2 x y H2 fun a b H3 => rLstRg a b H3 Q) := ⟨fun h => h⟩
instance j_rg2 {Q : Int → Int → Hp → Prop} : St1 (rRg2 (.int i) (.int j) H Q) (Q i j H) := ⟨v_rg2⟩
instance i_gname {k : L2.St → Hp → Prop} : St1 (gName n v σ H k) (Kont k σ n (some v) H) := ⟨fun h => h⟩
instance i_gcons {xs : List V} {g : TG} {tg : TGs} {k : L2.St → Hp → Prop} : St1 (gCons g tg (v :: xs) σ H k) (g v σ H fun σ' H' => tg xs σ' H' k) := ⟨g_cons⟩
instance i_gnil {k : L2.St → Hp → Prop} : St1 (gNil [] σ H k) (k σ H) := ⟨g_nil⟩
instance i_irng1 {R : It → Hp → Prop} : St1 (iRng1 as σ H R) (as σ H fun vs H1 => rRng1 vs H1 R) := ⟨fun h => h⟩
instance i_irng2 {R : It → Hp → Prop} : St1 (iRng2 as σ H R) (as σ H fun vs H1 => rRng2 vs H1 R) := ⟨fun h => h⟩
instance i_ilist {R : It → Hp → Prop} : St1 (iList K te σ H R) (te σ H fun x H1 => rSeqL K x H1 R) := ⟨fun h => h⟩
instance i_itup {R : It → Hp → Prop} : St1 (iTup K te σ H R) (te σ H fun x H1 => rSeqT K x H1 R) := ⟨fun h => h⟩
instance i_lc {wi : TI} {g : TG} {vs : List Nat} : St1 (tLc wi g tt te vs σ H Q) (wi σ H fun J H1 => rLc J g tt te vs σ H1 Q) := ⟨fun h => h⟩
instance i_bm {T : String} {r : V → List V → Hp → VK → Prop} : St1 (tBM K T r ta as σ H Q) (ta σ H fun x H1 => tyV K T x H1 ∧ as σ H1 fun xs H2 => r x xs H2 Q) := ⟨fun h => h⟩
instance i_bm0 {T : String} {r : V → List V → Hp → VK → Prop} : St1 (tBM0 K T r ta σ H Q) (ta σ H fun x H1 => tyV K T x H1 ∧ r x [] H1 Q) := ⟨fun h => h⟩
/-- the element of a comprehension, its names set -/
def LcK (vs : List Nat) (σw : L2.St) (te : TE) (k : VK) (σ2 : L2.St) (H2 : Hp) : Prop := wipe σ2 vs = σw ∧ te σ2 H2 k
instance i_lck {vs : List Nat} {σw : L2.St} [a : WipeS σ vs σw] : St1 (LcK vs σw te Q σ H) (te σ H Q) := ⟨fun h => ⟨a.h, h⟩⟩
theorem lcR {lo : Int} {n : Nat} {g : TG} {vs : List Nat} {σw : L2.St} [a : WipeS σ vs σw] (Pv : Nat → Addr → List V → Hp → Prop) (h0 : ∀ D H1, H D = none → Ext H H1 → H1 D = some (.lst []) → Pv 0 D [] H1)
    (hs : ∀ i D acc H1, H D = none → i < n → H1 D = some (.lst acc) → acc.length = i → Pv i D acc H1 → g (.int (lo + i)) σw H1 fun σ2 H2 => LcK vs σw te (fun y H4 => rAcc D (LcAt D (i + 1) (Pv (i + 1) D)) y H4) σ2 H2)
    (hd : ∀ D acc H1, H D = none → H1 D = some (.lst acc) → acc.length = n → Pv n D acc H1 → Q (.ref D) H1) : rLc (Itr lo n) g tYes te vs σ H Q :=
  lc_rng Pv h0 (fun i D acc H1 hD hi h1 hl hp => by rw [a.h]; exact hs i D acc H1 hD hi h1 hl hp) hd
theorem lcL {ad : Addr} {xs : List V} {g : TG} {vs : List Nat} {σw : L2.St} [a : WipeS σ vs σw] (Pv : Nat → Addr → List V → Hp → Prop) (h0 : ∀ D H1, H D = none → Ext H H1 → H1 D = some (.lst []) → Pv 0 D [] H1)
    (hl : ∀ i D acc H1, H D = none → i ≤ xs.length → Pv i D acc H1 → SqL K H1 ad xs)
    (hs : ∀ i x D acc H1, H D = none → xs[i]? = some x → H1 D = some (.lst acc) → acc.length = i → Pv i D acc H1 → g x σw H1 fun σ2 H2 => LcK vs σw te (fun y H4 => rAcc D (LcAt D (i + 1) (Pv (i + 1) D)) y H4) σ2 H2)
    (hd : ∀ D acc H1, H D = none → H1 D = some (.lst acc) → acc.length = xs.length → Pv xs.length D acc H1 → Q (.ref D) H1) : rLc (Itl K ad) g tYes te vs σ H Q :=
  lc_lst (xs := xs) Pv h0 hl (fun i x D acc H1 hD hi h1 hl' hp => by rw [a.h]; exact hs i x D acc H1 hD hi h1 hl' hp) hd
end
end GG

/-! GV: == of an own instance and a value of another kind, both ways. -/
namespace GG
open PySem L2 PyProof.Rows
section
variable {X : Cx} {CX : CXT} {k : Nat} {C f : Addr} {fd : FuncData} {ps : List Str} {sp : Sp} {E : L2.St → XK}
/-- x == y by the text's own ==, y of a built-in type T -/
def rOwnEqT (C : Addr) (sp : Sp) (E : L2.St → XK) : R2S := fun σ x y H Q => ∃ a dx fs, x = .ref a ∧ H a = some (.ins C dx fs) ∧ ((∃ i, y = .int i) ∨ ∃ b ys, y = .ref b ∧ H b = some (.tup ys)) ∧ sp [.ref a, y] H Q (E σ)
theorem op_ownEqT (S : Sm X.prog X.w X.K X.mg X.base C "__eq__" k ps sp) (hr : Room k X.A) (hx : Ps X E) (h1 : PySem.W.notFirst X.K C (.type "int") = true) (h2 : PySem.W.notFirst X.K C (.type "tuple") = true) : OpS X (compareOp .Eq) (rOwnEqT C sp E) := by
  intro pins s σ H x y v u Q I rx ry hq
  obtain ⟨f, fd, F, hs, hf, hb⟩ := S.ex
  obtain ⟨a, dx, fs, rfl, ha, hy, q⟩ := hq
  cases rx
  obtain ⟨_, _, J⟩ := inst_of I ha
  obtain ⟨m, hF⟩ := I.fr
  show wpAny (model X.prog X.w) X.A (richCompare .Eq _ _) (EP X pins σ Q) X.xe s
  rcases hy with ⟨i, rfl⟩ | ⟨b, ys, rfl, hb'⟩
  · obtain ⟨t, rfl⟩ := (show ∃ t, u = Value.int i t from ry)
    refine PySem.W.cmp_K (op := .Eq) (tb := .type "int") hr.units0 hF I.ok.mod.kin J (PySem.W.Looks.of_pure rfl) h1 hs hf ?_
    exact thn (run_at0 (vs := [.ref a, .int i]) F hr rfl hb (hx σ) I (.cons rfl (.cons ⟨t, rfl⟩ .nil)) q) fun _ _ z => cmpBack_ep z
  · cases (show u = Value.ref b from ry)
    obtain ⟨_, its, rv, o, g1, g2, n, g3⟩ := (show ObjOk X.prog X.w H s.heap b (.tup ys) from I.hok b _ hb')
    have ty : PySem.W.Looks (model X.prog X.w) s.heap (typeOf (.ref b)) (.type "tuple") := by
      intro A' Q' E' s' k' q'
      exact wpAny_typeOf (show s'.TypeIs (.ref b) "tuple" from ⟨o, k' _ _ g1, g2⟩) q'
    refine PySem.W.cmp_K (op := .Eq) (tb := .type "tuple") hr.units0 hF I.ok.mod.kin J ty h2 hs hf ?_
    exact thn (run_at0 (vs := [.ref a, .ref b]) F hr rfl hb (hx σ) I (.cons rfl (.cons rfl .nil)) q) fun _ _ z => cmpBack_ep z
/-- int.__eq__ declines an own instance -/
theorem int_eq_own {A : Around} {s : Shared} {i : Int} {t : Tok} {a : Addr} {Q : Value → Shared → Prop} {E : Value → Shared → Prop} {prog : Program} {w : World} {dx : Addr} (ho : s.heap.get? a = some (PySem.W.instObj C dx)) (h : Q .notImplemented s) :
    wpAny (model prog w) A (call (.builtin "int.__eq__") [.int i t, .ref a]) Q E s := by
  refine wpAny_call (codeAny_call_builtin F.slot_int_eq.plain F.entry_int_eq (F.slot_int_eq.check _ _ _ _ _ _ _ _ (typeIs_int s i t) (F.args_int_eq_2 _ _) ?_))
  obtain ⟨hp, g, d, tk, os⟩ := s
  have ho' : hp.get? a = some (PySem.W.instObj C dx) := ho
  unfold PySem.W.instObj at ho'
  wp_walk using wpAny_load ho'
  exact h
/-- y == x, y an int: int declines, the text's own == is asked -/
def rEqOwnR (C : Addr) (sp : Sp) (E : L2.St → XK) : R2S := fun σ y x H Q => ∃ a dx fs i, y = .int i ∧ x = .ref a ∧ H a = some (.ins C dx fs) ∧ sp [.ref a, .int i] H Q (E σ)
theorem op_eqOwnR (S : Sm X.prog X.w X.K X.mg X.base C "__eq__" k ps sp) (hr : Room k X.A) (hx : Ps X E) (hsub : PySem.W.subIn X.K (.ref C) (.type "int") = some false) : OpS X (compareOp .Eq) (rEqOwnR C sp E) := by
  intro pins s σ H y x v u Q I ry rx hq
  obtain ⟨f, fd, F, hs, hf, hb⟩ := S.ex
  obtain ⟨a, dx, fs, i, rfl, rfl, ha, q⟩ := hq
  cases rx
  obtain ⟨t, rfl⟩ := (show ∃ t, v = Value.int i t from ry)
  obtain ⟨_, _, J⟩ := inst_of I ha
  have ho : s.heap.get? a = some (PySem.W.instObj C dx) := (show ObjOk X.prog X.w H s.heap a (.ins C dx fs) from I.hok a _ ha).2.2.2.1
  have XK := I.kIn
  show wpAny (model X.prog X.w) X.A (richCompare .Eq _ _) (EP X pins σ Q) X.xe s
  have one : wpAny (model X.prog X.w) X.A (tryCompare (.ref a) "__eq__" (.int i t)) (fun r s' => ∃ v, r = some v ∧ EP X pins σ Q v s') X.xe s := by
    unfold tryCompare
    refine wpAny_bind (PySem.W.ifBound_K XK J hs hf (thn (run_at0 (vs := [.ref a, .int i]) F hr rfl hb (hx σ) I (.cons rfl (.cons ⟨t, rfl⟩ .nil)) q) fun v s' hv => ?_))
    have hv' := cmpBack_ep hv
    cases v <;> first | exact hv'.elim | exact wpAny_pure ⟨_, rfl, hv⟩
  unfold richCompare
  have on : oneThing? .Eq (.int i t) (.ref a) = none := by rfl
  simp only [on]
  refine wpAny_holding (wpAny_bind (wpAny_cRoomFor hr.units0 ?_))
  refine wpAny_bind (wpAny_typeOf (typeIs_int s i t) (wpAny_bind (J.type.here ?_)))
  have hne : (Value.type "int" != Value.ref C) = true := rfl
  rw [if_pos hne]
  refine wpAny_bind ((PySem.W.looks_subIn XK hsub).here ?_)
  simp only [Bool.false_eq_true, if_false, Bool.not_false, if_true]
  refine wpAny_bind (m := tryCompare (.int i t) _ (.ref a)) (wpAny_tryCompare_declines (typeIs_int s i t) PySem.F.slot_int_eq (int_eq_own ho ⟨rfl, ?_⟩))
  refine wpAny_bind (m := tryCompare (.ref a) _ (.int i t)) (thn one fun r s' hr' => ?_)
  obtain ⟨v, rfl, hq⟩ := hr'
  exact wpAny_pure hq
end
/-! ### properties -/
structure Pr (P : Program) (w : World) (K : PySem.W.Frag) (mg : Str → Option Value) (base : Heap) (C : Addr) (m : Str) (k : Nat) (ps : List Str) (sp : Sp) : Prop where
  ex : ∃ p g fd, FnOk P w K mg base (L2N.CX P w) k g fd ps sp ∧ PropOf K C m p g ∧ L2.Binds K fd ps []
  cls : Cls K C
theorem passN {X : Cx} : Passes (L2N.CX X.prog X.w) X E0 := fun _ _ _ _ _ _ _ h => by
  obtain ⟨_, _, _, _, _, _, _, _, _, _, _, _, z⟩ := h
  exact z.elim
theorem pe_pr {X : Cx} {C : Addr} {m : Str} {k : Nat} {ps : List Str} {sp : Sp} {e : Expr} {ta : TE} {pos : Pos} (F : Pr X.prog X.w X.K X.mg X.base C m k ps sp) (hr : Room (k + 1) X.A) (he : PE X e ta) (hab : attributeBase e m X.env (eval e X.env) = eval e X.env) :
    PE X (.Attribute e m pos) (tProp C sp [] E0 ta) := by
  obtain ⟨⟨p, g, fd, F, hp, hb⟩, c⟩ := F
  exact pe_prop he c hp F hr hb .nil (passN (X := X.nox)) hab
section
variable {K : PySem.W.Frag} {mg : Str → Option Value} {nx bk ct : L2.St → Hp → Prop} {rt : VK} {σ σ' σ1 σ2 : L2.St} {H : Hp} {t u : TS} {te ta tb tc : TE} {tt tu : TT} {as tr : TA} {Q : VK} {QB : Bool → Hp → Prop} {v x y : V} {E : L2.St → XK} {sp : Sp} {i j : Int} {n m : Nat} {b : Bool} {A B : Prop}
def rProp (C : Addr) (sp : Sp) (x : V) (H : Hp) (Q : VK) : Prop := ∃ a dx fs, x = .ref a ∧ H a = some (.ins C dx fs) ∧ sp [.ref a] H Q E0
instance i_prop {C : Addr} : St1 (tProp C sp [] E0 ta σ H Q) (ta σ H fun x H1 => rProp C sp x H1 Q) := ⟨fun h => h⟩
theorem v_prop {C a dx : Addr} {fs : List (Str × V)} (ha : H a = some (.ins C dx fs)) (q : sp [.ref a] H Q E0) : rProp C sp (.ref a) H Q := ⟨a, dx, fs, rfl, ha, q⟩
/-! ### own == with another kind -/
theorem v_ownEqI {C a dx : Addr} {fs : List (Str × V)} (ha : H a = some (.ins C dx fs)) (q : sp [.ref a, .int i] H Q (E σ)) : rOwnEqT C sp E σ (.ref a) (.int i) H Q := ⟨a, dx, fs, rfl, ha, .inl ⟨i, rfl⟩, q⟩
theorem v_ownEqU {C a dx b : Addr} {fs : List (Str × V)} {ys : List V} (ha : H a = some (.ins C dx fs)) (hb : H b = some (.tup ys)) (q : sp [.ref a, .ref b] H Q (E σ)) : rOwnEqT C sp E σ (.ref a) (.ref b) H Q := ⟨a, dx, fs, rfl, ha, .inr ⟨b, ys, rfl, hb⟩, q⟩
theorem v_eqOwnR {C a dx : Addr} {fs : List (Str × V)} (ha : H a = some (.ins C dx fs)) (q : sp [.ref a, .int i] H Q (E σ)) : rEqOwnR C sp E σ (.int i) (.ref a) H Q := ⟨a, dx, fs, i, rfl, rfl, ha, q⟩
/-! ### x, y = e, f -/
def rPar (n m : Nat) (nx : L2.St → Hp → Prop) (σ : L2.St) (vs : List V) (H : Hp) : Prop := ∃ v w, vs = [v, w] ∧ nx ((σ.set n (some v)).set m (some w)) H
instance (priority := high) i_parR : St1 (Run (tPar n m as) nx rt bk ct σ H) (as σ H fun vs H1 => rPar n m nx σ vs H1) := ⟨fun h => h⟩
instance i_parV [a : SetS σ n (some v) σ1] [b : SetS σ1 m (some x) σ2] : St1 (rPar n m nx σ [v, x] H) (nx σ2 H) := ⟨fun h => ⟨v, x, rfl, by rw [a.h, b.h]; exact h⟩⟩
/-! ### while -/
def rWh (m : Nat) (Pv : Nat → L2.St → Hp → Prop) (t : TS) (nx : L2.St → Hp → Prop) (rt : VK) (σ : L2.St) (b : Bool) (H : Hp) : Prop :=
  if b = true then ∃ N : L2.St → Hp → Prop, (∀ σ' H', N σ' H' → ∃ m', m' < m ∧ Pv m' σ' H') ∧ t ⟨N, rt, nx, N⟩ σ H else nx σ H
theorem run_while (Pv : Nat → L2.St → Hp → Prop) (h0 : ∃ m, Pv m σ H) (hs : ∀ m σ H, Pv m σ H → tt σ H fun b H1 => rWh m Pv t nx rt σ b H1) : Run (tWhile tt t) nx rt bk ct σ H := ⟨Pv, h0, hs⟩
instance i_wh {Pv : Nat → L2.St → Hp → Prop} : St1 (rWh m Pv t nx rt σ b H) (Br b (Run t (fun σ' H' => ∃ m', m' < m ∧ Pv m' σ' H') rt nx (fun σ' H' => ∃ m', m' < m ∧ Pv m' σ' H') σ H) (nx σ H)) := ⟨fun h => by
  cases b with
  | true => exact iteT ⟨_, fun _ _ z => z, h⟩
  | false => exact iteF h⟩
end
/-! ### a def with one default -/
theorem funD_mk {K : PySem.W.Frag} {x qual : Str} {st : Stmt} {f T : Addr} {oc oc' : Value} {od an od' : Option Addr} {osl osl' : Array (Option Value)} {kV doc pm cdv ct u : Value} {n : Nat} {v : V} (l : K.lookup f = some ⟨oc, od, .func (PySem.W.fnOf x qual (defArgs st) (defBody st) (defScope st) (.ref T) kV doc pm an cdv ct), osl⟩)
    (c : PySem.W.codeIn K cdv qual = true) (k : PySem.W.keepIn K (.ref f) = true) (lT : K.lookup T = some ⟨oc', od', .seq #[u] n, osl'⟩) (r : RelV v u) :
    FunD K x qual (defArgs st) (defBody st) (defScope st) [v] [] f (PySem.W.fnOf x qual (defArgs st) (defBody st) (defScope st) (.ref T) kV doc pm an cdv ct) :=
  ⟨⟨oc, od, _, kV, doc, pm, an, cdv, ct, osl, rfl, l, c, .inr ⟨by simp, T, _, [u], n, rfl, lT, rfl, .cons r .nil⟩, .inl rfl⟩, k⟩
end GG

/-! GW: i op x, i an int, x an own instance: int declines, the text's own reflected operator is asked. -/
namespace GG
open PySem L2 PyProof.Rows
section
variable {X : Cx} {CX : CXT} {k : Nat} {C f : Addr} {fd : FuncData} {ps : List Str} {sp : Sp} {E : L2.St → XK}
/-- a built-in of int declines an own instance -/
def Declines (C : Addr) (id : String) : Prop := ∀ (prog : Program) (w : World) (A : Around) (s : Shared) (i : Int) (t : Tok) (a : Addr) (Q : Value → Shared → Prop) (E : Value → Shared → Prop) (dx : Addr),
  s.heap.get? a = some (PySem.W.instObj C dx) → Q .notImplemented s → wpAny (model prog w) A (call (.builtin id) [.int i t, .ref a]) Q E s
theorem int_add_own : Declines C "int.__add__" := by
  intro prog w A s i t a Q E dx ho h
  refine wpAny_call (codeAny_call_builtin F.slot_int_add.plain F.entry_int_add (F.slot_int_add.check _ _ _ _ _ _ _ _ (typeIs_int s i t) (F.args_int_add_2 _ _) ?_))
  obtain ⟨hp, g, d, tk, os⟩ := s
  have ho' : hp.get? a = some (PySem.W.instObj C dx) := ho
  unfold PySem.W.instObj at ho'
  wp_walk using wpAny_load ho'
  exact h
theorem int_sub_own : Declines C "int.__sub__" := by
  intro prog w A s i t a Q E dx ho h
  refine wpAny_call (codeAny_call_builtin F.slot_int_sub.plain F.entry_int_sub (F.slot_int_sub.check _ _ _ _ _ _ _ _ (typeIs_int s i t) (F.args_int_sub_2 _ _) ?_))
  obtain ⟨hp, g, d, tk, os⟩ := s
  have ho' : hp.get? a = some (PySem.W.instObj C dx) := ho
  unfold PySem.W.instObj at ho'
  wp_walk using wpAny_load ho'
  exact h
theorem int_mul_own : Declines C "int.__mul__" := by
  intro prog w A s i t a Q E dx ho h
  refine wpAny_call (codeAny_call_builtin F.slot_int_mul.plain F.entry_int_mul (F.slot_int_mul.check _ _ _ _ _ _ _ _ (typeIs_int s i t) (F.args_int_mul_2 _ _) ?_))
  obtain ⟨hp, g, d, tk, os⟩ := s
  have ho' : hp.get? a = some (PySem.W.instObj C dx) := ho
  unfold PySem.W.instObj at ho'
  wp_walk using wpAny_load ho'
  exact h
def IntL (C : Addr) (nm : String) : Prop := ∃ id, Slot "int" (PySem.dunder nm) id ∧ fillsNumberSlot (.type "int") nm = pure true ∧ Declines C id
theorem il_add : IntL C "add" := ⟨_, F.slot_int_add, F.fills_int_add, int_add_own⟩
theorem il_sub : IntL C "sub" := ⟨_, F.slot_int_sub, F.fills_int_sub, int_sub_own⟩
theorem il_mul : IntL C "mul" := ⟨_, F.slot_int_mul, F.fills_int_mul, int_mul_own⟩
theorem Sm.lk {P : Program} {w : World} {K : PySem.W.Frag} {mg : Str → Option Value} {base : Heap} {name : Str} (S : Sm P w K mg base C name k ps sp) : ∃ f, PySem.W.findIn K (.ref C) name = some (some (.ref f)) := by
  obtain ⟨f, fd, F, hs, _⟩ := S.ex
  exact ⟨f, hs⟩
def rIntOwn (C : Addr) (sp : Sp) (E : L2.St → XK) : R2S := fun σ y x H Q => ∃ a dx fs i, y = .int i ∧ x = .ref a ∧ H a = some (.ins C dx fs) ∧ sp [.ref a, .int i] H Q (E σ)
theorem op_intOwn {op : Operator} (S : Sm X.prog X.w X.K X.mg X.base C (dunderR op.info.2) k ps sp) (hr : Room k X.A) (hx : Ps X E) (hc : PySem.W.selfFirst X.K C = true) (hl : ∃ fn, PySem.W.findIn X.K (.ref C) (PySem.dunder op.info.2) = some (some (.ref fn)))
    (hil : IntL C op.info.2) (hsub : PySem.W.subIn X.K (.ref C) (.type "int") = some false) : OpS X (binaryOp op) (rIntOwn C sp E) := by
  intro pins s σ H y x v u Q I ry rx hq
  obtain ⟨f, fd, F, hs, hf, hb⟩ := S.ex
  obtain ⟨fn, hl⟩ := hl
  obtain ⟨id, hsl, hfl, hd⟩ := hil
  obtain ⟨a, dx, fs, i, rfl, rfl, ha, q⟩ := hq
  cases rx
  obtain ⟨t, rfl⟩ := (show ∃ t, v = Value.int i t from ry)
  obtain ⟨_, _, J⟩ := inst_of I ha
  have ho : s.heap.get? a = some (PySem.W.instObj C dx) := (show ObjOk X.prog X.w H s.heap a (.ins C dx fs) from I.hok a _ ha).2.2.2.1
  have XK := I.kIn
  have J' : PySem.W.Looks (model X.prog X.w) s.heap (typeOf (.ref a)) (.ref C) := J.type
  have one := PySem.W.ksp_try (b := .int i t) XK J hs hf (thn (run_at0 (vs := [.ref a, .int i]) F hr rfl hb (hx σ) I (.cons rfl (.cons ⟨t, rfl⟩ .nil)) q) fun _ _ z => cmpBack_ep z)
  obtain ⟨cd, rest, hcd, hm⟩ := PySem.W.ksp_first hc
  rcases hi : op.info with ⟨sym, nm⟩
  rw [hi] at hl hsl hfl one
  dsimp only at hl hsl hfl one
  have two : ∀ Q' : Option Value → Shared → Prop, Q' none s → wpAny (model X.prog X.w) X.A (tryMethod (.int i t) (PySem.dunder nm) (.ref a)) Q' X.xe s := fun Q' q' => wpAny_tryMethod_declines (typeIs_int s i t) hsl (hd _ _ _ s i t a _ _ dx ho ⟨rfl, q'⟩)
  clear q I ha hx ho J
  obtain ⟨hh, g, d, tt, os⟩ := s
  have L1 : PySem.W.Looks (model X.prog X.w) hh (typeOf (.int i t)) (.type "int") := PySem.W.Looks.of_pure rfl
  have L2 : PySem.W.Looks (model X.prog X.w) hh (typeOf (.ref a)) (.ref C) := J'
  have L3 : PySem.W.Looks (model X.prog X.w) hh (fillsNumberSlot (.ref C) nm) true := PySem.W.fills_K XK hcd hm hl
  have L4 : PySem.W.Looks (model X.prog X.w) hh (fillsNumberSlot (.type "int") nm) true := PySem.W.Looks.of_pure hfl
  have L5 : PySem.W.Looks (model X.prog X.w) hh (isSubtype (.ref C) (.type "int")) false := PySem.W.looks_subIn XK hsub
  have L6 : PySem.W.Looks (model X.prog X.w) hh (numberSlotInPython (.type "int") nm) false := PySem.W.Looks.of_pure rfl
  have hne : (Value.type "int" == Value.ref C) = false := rfl
  simp only [binaryOp, hi]
  refine wpAny_holding (wpAny_bind ?_)
  unfold binaryOp1
  refine wpAny_bind (L1.at (wpAny_bind (L2.at (wpAny_bind (L4.at ?_)))))
  simp only [hne, Bool.false_eq_true, if_false]
  ksp_lk
  refine two _ ?_
  ksp_lk
  refine wpAny_mono one (fun r s' hr' => ?_) fun _ _ e => e
  obtain ⟨v, rfl, hq⟩ := hr'
  ksp_lk
  exact hq
/-- x op y, each an instance of the class at C or an int, not both ints -/
def rEither (C : Addr) (sp spR : Sp) (E : L2.St → XK) : R2S := fun σ x y H Q => rOwn C sp E σ x y H Q ∨ (rOwnI C sp E σ x y H Q ∨ rIntOwn C spR E σ x y H Q)
theorem op_either {op : Operator} {k2 : Nat} {ps2 : List Str} {spR : Sp} (S : Sm X.prog X.w X.K X.mg X.base C (PySem.dunder op.info.2) k ps sp) (hr : Room k X.A) (R : Sm X.prog X.w X.K X.mg X.base C (dunderR op.info.2) k2 ps2 spR) (hr2 : Room k2 X.A) (hx : Ps X E)
    (hc : PySem.W.selfFirst X.K C = true) (hi : RightT X.K C "int" op.info.2) (hil : IntL C op.info.2) (hsub : PySem.W.subIn X.K (.ref C) (.type "int") = some false) : OpS X (binaryOp op) (rEither C sp spR E) :=
  (op_own S hr hx hc).or ((op_ownI S hr hx hc hi).or (op_intOwn R hr2 hx hc S.lk hil hsub))
/-- x op y, x an instance of the class at C, y one or an int -/
def rEitherR (C : Addr) (sp : Sp) (E : L2.St → XK) : R2S := fun σ x y H Q => rOwn C sp E σ x y H Q ∨ rOwnI C sp E σ x y H Q
theorem op_eitherR {op : Operator} (S : Sm X.prog X.w X.K X.mg X.base C (PySem.dunder op.info.2) k ps sp) (hr : Room k X.A) (hx : Ps X E)
    (hc : PySem.W.selfFirst X.K C = true) (hi : RightT X.K C "int" op.info.2) : OpS X (binaryOp op) (rEitherR C sp E) := (op_own S hr hx hc).or (op_ownI S hr hx hc hi)
end
section
variable {nx bk ct : L2.St → Hp → Prop} {rt : VK} {σ : L2.St} {H : Hp} {te : TE} {Q : VK} {v x y : V} {E : L2.St → XK} {sp spR : Sp} {i j : Int} {n m : Nat} {C a b dx dy : Addr} {fs gs : List (Str × V)}
theorem v_e1 (ha : H a = some (.ins C dx fs)) (hb : H b = some (.ins C dy gs)) (q : sp [.ref a, .ref b] H Q (E σ)) : rEither C sp spR E σ (.ref a) (.ref b) H Q := .inl ⟨a, dx, fs, b, dy, gs, rfl, ha, rfl, hb, q⟩
theorem v_e2 (ha : H a = some (.ins C dx fs)) (q : sp [.ref a, .int i] H Q (E σ)) : rEither C sp spR E σ (.ref a) (.int i) H Q := .inr (.inl ⟨a, dx, fs, i, rfl, ha, rfl, q⟩)
theorem v_e3 (ha : H a = some (.ins C dx fs)) (q : spR [.ref a, .int i] H Q (E σ)) : rEither C sp spR E σ (.int i) (.ref a) H Q := .inr (.inr ⟨a, dx, fs, i, rfl, rfl, ha, q⟩)
theorem v_er1 (ha : H a = some (.ins C dx fs)) (hb : H b = some (.ins C dy gs)) (q : sp [.ref a, .ref b] H Q (E σ)) : rEitherR C sp E σ (.ref a) (.ref b) H Q := .inl ⟨a, dx, fs, b, dy, gs, rfl, ha, rfl, hb, q⟩
theorem v_er2 (ha : H a = some (.ins C dx fs)) (q : sp [.ref a, .int i] H Q (E σ)) : rEitherR C sp E σ (.ref a) (.int i) H Q := .inr ⟨a, dx, fs, i, rfl, ha, rfl, q⟩
theorem v_iR (ha : H a = some (.ins C dx fs)) (q : sp [.ref a, .int i] H Q (E σ)) : rIntOwn C sp E σ (.int i) (.ref a) H Q := ⟨a, dx, fs, i, rfl, rfl, ha, q⟩
instance i_asg2 : St1 (Run (tAsg2 te (gName n) (gName m)) nx rt bk ct σ H) (te σ H fun x H1 => Kont (fun σ' H' => Kont nx σ' m (some x) H') σ n (some x) H1) := ⟨fun h => h⟩
end
end GG

/-! GH: defs called within an except suite. -/
namespace GG
open PySem L2 PyProof.Rows
/-- a def of the top, as it is called within an except suite -/
structure FnS (P : Program) (w : World) (K : PySem.W.Frag) (mg : Str → Option Value) (base : Heap) (x : Str) (k : Nat) (ps : List Str) (sp : Sp) : Prop where
  ex : ∃ f fd, L2H.FnH P w K mg base (L2N.CX P w) k f fd ps sp ∧ mg x = some (.ref f) ∧ PySem.W.keepIn K (.ref f) = true ∧ L2.Binds K fd ps []
theorem _root_.L2H.RoomH.units {k : Nat} {A : Around} (r : L2H.RoomH k A) : A.units + 64 < cLine := by have := r.un; omega
theorem _root_.L2H.RoomH.units0 {k : Nat} {A : Around} (r : L2H.RoomH k A) : A.units < cLine := by have := r.un; omega
section
variable {X : Cx} {k : Nat} {ps : List Str} {sp : Sp} {E : L2.St → XK} {x : Str} {p pos : Pos} {e : Expr} {es : List Expr} {t : TA}
theorem pe_fnH (F : FnS X.prog X.w X.K X.mg X.base x k ps sp) (hr : L2H.RoomH k X.A) (hc : L2H.HotC X) (hx : Ps X E) (ha : PA X (e :: es) t) (hg : Gl X x := by rfl) (hdb : (x == ("__debug__" : Str)) = false := by decide)
    (he : starEach (e :: es) X.env = (false, eval e X.env) :: starEach es X.env := by rfl) (hpl : (backTo pos (starEach es X.env)).any (·.1) = false := by rfl) :
    PE X (.Call (.Name x p) (e :: es) [] pos) (tCallSD sp [] E t) := by
  obtain ⟨f, fd, F, hm, hk, hb⟩ := F.ex
  refine ⟨fun pins s σ H Q I h => ?_⟩
  refine wpAny_Call_Name_kw (ld_glob I hg hm ?_ hdb)
  refine PySem.W.callWith_K (h₀ := X.base) I.ok.mod.kin hk (thn (ha.run pos pins s σ H _ I h) fun us s1 ⟨vs, H1, I1, r, q⟩ => ⟨I1.kIn, ?_⟩) he hpl
  have q : sp (vs ++ []) H1 Q (E σ) := q
  rw [List.append_nil] at q
  exact L2H.run_fnH (E := E) F hr hc hb (hx σ) I1 r q
/-- the suite bears the exception that is handled -/
theorem hot_suite {a : Addr} {oe : Obj} {cls : Value} {d : Option Addr} {pn : List (Addr × Obj)} (hz : L2N.Zn cls d oe) (hf : ∃ vs, oe.data = .fields vs) : L2H.HotC (X.suite a ((a, oe) :: pn)) := by
  obtain ⟨vs, hd⟩ := hf
  exact ⟨(a, oe), ⟨rfl, vs, hd, hz.2.2 vs hd⟩, List.Mem.head _⟩
theorem room_suite {a : Addr} {j : Nat} {pn : List (Addr × Obj)} (hr : Room k X.A) (h : j ≤ k) : L2H.RoomH j (X.suite a pn).A := L2H.RoomH.mono (k := k) ⟨hr.dp, hr.un⟩ h
theorem hot_def {CX : CXT} {P : Program} {w : World} {K : PySem.W.Frag} {mg : Str → Option Value} {base : Heap} {N : List Str} {qual : Str} {scope : Scope} {f : Addr} {cd : Value} {A : Around} {outer : List Env} {s : Shared} {H : Hp} {E : XK} {p : Addr × Obj} (h : L2H.Hot1 A p) :
    L2H.HotC (L2H.cxH CX P w K mg base N qual scope f cd A outer s H E p) := ⟨p, ⟨h.1, h.2⟩, List.Mem.head _⟩
end
/-! ### a cut behind a statement -/
theorem run_cut {t : TS} {nx bk ct : L2.St → Hp → Prop} {rt : VK} {σ : L2.St} {H : Hp} (P : L2.St → Hp → Prop) (h1 : ∀ nx' : L2.St → Hp → Prop, (∀ σ' H', P σ' H' → nx' σ' H') → Run t nx' rt bk ct σ H) (h2 : ∀ σ' H', P σ' H' → nx σ' H') : Run t nx rt bk ct σ H := h1 nx h2
theorem is_if {tt : TT} {t u : TS} {nx bk ct : L2.St → Hp → Prop} {rt : VK} {σ : L2.St} {H : Hp} (h : Run (tIfS tt t u) nx rt bk ct σ H) : Run (tIfS tt t u) nx rt bk ct σ H := h
/-! ### methods -/
section
variable {σ : L2.St} {H : Hp} {ta : TE} {as : TA} {Q : VK} {E : L2.St → XK} {sp : Sp} {C a dx : Addr} {m : Str} {dvs : List V} {fs : List (Str × V)} {v : V}
def SpM (sp : Sp) (dvs : List V) (a : Addr) (vs : List V) (H : Hp) (Q : VK) (E : XK) : Prop := sp (.ref a :: (vs ++ dvs)) H Q E
def rMt (C : Addr) (m : Str) (sp : Sp) (dvs : List V) (E : L2.St → XK) (as : TA) (σ : L2.St) (x : V) (H : Hp) (Q : VK) : Prop := ∃ a dx fs, x = .ref a ∧ H a = some (.ins C dx fs) ∧ fs.lookup m = none ∧ as σ H fun vs H2 => SpM sp dvs a vs H2 Q (E σ)
instance i_mt : St1 (tMtS C m sp dvs E ta as σ H Q) (ta σ H fun x H1 => rMt C m sp dvs E as σ x H1 Q) := ⟨fun h => h⟩
theorem v_mt (ha : H a = some (.ins C dx fs)) (hl : fs.lookup m = none) (q : as σ H fun vs H2 => SpM sp dvs a vs H2 Q (E σ)) : rMt C m sp dvs E as σ (.ref a) H Q := ⟨a, dx, fs, rfl, ha, hl, q⟩
instance i_spM {vs ws : List V} {E : XK} [x : AppV vs dvs ws] : St1 (SpM sp dvs a vs H Q E) (sp (.ref a :: ws) H Q E) := ⟨fun h => by unfold SpM; rw [x.h]; exact h⟩
end
end GG

namespace GM
theorem fmod_eq (x y : Int) : x.fmod y = x - y * x.fdiv y := by
  have := Int.mul_fdiv_add_fmod x y
  omega
theorem gcd_fmod (x y : Int) : Int.gcd y (x.fmod y) = Int.gcd x y := by
  rw [fmod_eq, Int.gcd_comm x y]
  exact Int.gcd_sub_mul_left_right y x (x.fdiv y)
theorem fmod_neg (x y : Int) : x.fmod (-y) = -((-x).fmod y) := by
  have h := Int.neg_fmod_neg (a := -x) (b := y)
  rw [Int.neg_neg] at h
  exact h
theorem fmod_lt {x y : Int} (h : y ≠ 0) : (x.fmod y).natAbs < y.natAbs := by
  rcases Int.lt_or_lt_of_ne h with h | h
  · have e := fmod_neg x (-y)
    rw [Int.neg_neg] at e
    have h1 := Int.fmod_nonneg_of_pos (-x) (b := -y) (by omega)
    have h2 := Int.fmod_lt_of_pos (-x) (b := -y) (by omega)
    omega
  · have h1 := Int.fmod_nonneg_of_pos x h
    have h2 := Int.fmod_lt_of_pos x h
    omega
/-- in lowest terms -/
theorem share_math {t b c : Int} (hb : b ≠ 0) (hc : (b < 0 ∧ c = -(Int.gcd t b : Int)) ∨ (0 < b ∧ c = (Int.gcd t b : Int))) :
    c ≠ 0 ∧ c.natAbs ≤ b.natAbs ∧ 0 < b.fdiv c ∧ Int.gcd (t.fdiv c) (b.fdiv c) = 1 ∧ t.fdiv c * b = t * b.fdiv c ∧ (t.fdiv c).natAbs ≤ t.natAbs ∧ (b.fdiv c).natAbs ≤ b.natAbs := by
  have hg : 0 < Int.gcd t b := Int.gcd_pos_of_ne_zero_right t hb
  have hct : c ∣ t := by
    rcases hc with ⟨_, rfl⟩ | ⟨_, rfl⟩
    · exact Int.neg_dvd.mpr (Int.gcd_dvd_left t b)
    · exact Int.gcd_dvd_left t b
  have hcb : c ∣ b := by
    rcases hc with ⟨_, rfl⟩ | ⟨_, rfl⟩
    · exact Int.neg_dvd.mpr (Int.gcd_dvd_right t b)
    · exact Int.gcd_dvd_right t b
  have hca : c.natAbs = Int.gcd t b := by
    rcases hc with ⟨_, rfl⟩ | ⟨_, rfl⟩ <;> simp
  have hc0 : c ≠ 0 := by
    intro z
    rw [z] at hca
    simp at hca
    omega
  obtain ⟨T, rfl⟩ := hct
  obtain ⟨B, rfl⟩ := hcb
  have e1 : (c * T).fdiv c = T := Int.mul_fdiv_cancel_left T hc0
  have e2 : (c * B).fdiv c = B := Int.mul_fdiv_cancel_left B hc0
  rw [e1, e2]
  have hB0 : B ≠ 0 := fun z => hb (by rw [z, Int.mul_zero])
  have h1 : 1 ≤ c.natAbs := by omega
  refine ⟨hc0, ?_, ?_, ?_, ?_, ?_, ?_⟩
  · rw [Int.natAbs_mul]
    exact Nat.le_mul_of_pos_right _ (by omega)
  · rcases hc with ⟨h, e⟩ | ⟨h, e⟩
    · have hcn : c < 0 := by omega
      exact Int.pos_of_mul_neg_right h (by omega) 
    · have hcp : 0 < c := by omega
      exact Int.pos_of_mul_pos_left (by rw [Int.mul_comm]; exact h) hcp
  · rw [Int.gcd_mul_left] at hca
    have : c.natAbs * Int.gcd T B = c.natAbs * 1 := by omega
    exact Nat.eq_of_mul_eq_mul_left h1 this
  · rw [Int.mul_comm c T, Int.mul_assoc, Int.mul_left_comm, ← Int.mul_assoc, Int.mul_comm c T]
  · rw [Int.natAbs_mul]
    exact Nat.le_mul_of_pos_left _ h1
  · rw [Int.natAbs_mul]
    exact Nat.le_mul_of_pos_left _ h1
theorem dvd_cop {a b c : Int} (h : a ∣ b * c) (g : Int.gcd a b = 1) : a ∣ c := by
  have := Int.dvd_gcd_mul_iff_dvd_mul.mpr h
  rw [g] at this
  simpa using this
/-- two fractions in lowest terms are equal only if they are the same -/
theorem share_eq {T B T' B' : Int} (h1 : Int.gcd T B = 1) (h2 : Int.gcd T' B' = 1) (hB : 0 < B) (hB' : 0 < B') (h : T * B' = T' * B) : T = T' ∧ B = B' := by
  have d1 : B ∣ B' := by
    have : B ∣ T * B' := ⟨T', by rw [h, Int.mul_comm]⟩
    exact dvd_cop this (by rw [Int.gcd_comm]; exact h1)
  have d2 : B' ∣ B := by
    have : B' ∣ T' * B := ⟨T, by rw [← h, Int.mul_comm]⟩
    exact dvd_cop this (by rw [Int.gcd_comm]; exact h2)
  have e : B = B' := Int.dvd_antisymm (by omega) (by omega) d1 d2
  subst e
  exact ⟨Int.eq_of_mul_eq_mul_right (by omega) h, rfl⟩
/-- a step of Euclid's: the product falls to a half -/
theorem euclid_half {a b : Int} (hb : 0 < b) (h : b ≤ a) : b * (a % b) * 2 ≤ a * b := by
  have h1 := Int.emod_nonneg a (b := b) (by omega)
  have h2 := Int.emod_lt_of_pos a hb
  have h3 := Int.mul_ediv_add_emod a b
  have h4 : 1 ≤ a / b := by
    exact Int.le_ediv_of_mul_le hb (by omega)
  have h5 : b ≤ b * (a / b) := by
    have := Int.mul_le_mul_of_nonneg_left h4 (show 0 ≤ b by omega)
    omega
  have h6 : a % b * 2 ≤ a := by omega
  have := Int.mul_le_mul_of_nonneg_left h6 (show 0 ≤ b by omega)
  rw [Int.mul_assoc, Int.mul_comm a b]
  exact this
theorem gcd_emod (a b : Int) : Int.gcd b (a % b) = Int.gcd a b := by
  rw [Int.gcd_comm a b]
  have e : a % b = a - b * (a / b) := by
    have := Int.mul_ediv_add_emod a b
    omega
  rw [e]
  exact Int.gcd_sub_mul_left_right b a (a / b)
theorem pow_lt_of {x : Int} {n m : Nat} (hx : 1 ≤ x) (h : x * 2 ^ n < 2 ^ m) : n < m := by
  rcases Nat.lt_or_ge n m with h' | h'
  · exact h'
  · exfalso
    have h1 : (2 : Int) ^ m ≤ 2 ^ n := by
      have := Nat.pow_le_pow_right (show 0 < 2 by decide) h'
      exact_mod_cast this
    have h2 : (0 : Int) < 2 ^ n := Int.pow_pos (by decide)
    have h3 := Int.mul_le_mul_of_nonneg_right hx (Int.le_of_lt h2)
    omega
theorem abs_lt_mul {x y : Int} {m n : Int} (hx : -m < x ∧ x < m) (hy : -n < y ∧ y < n) : -(m * n) < x * y ∧ x * y < m * n := by
  have h1 : x.natAbs < m.natAbs := by omega
  have h2 : y.natAbs < n.natAbs := by omega
  have h3 : (x * y).natAbs < (m * n).natAbs := by
    rw [Int.natAbs_mul, Int.natAbs_mul]
    exact Nat.mul_lt_mul'' h1 h2
  have h4 : 0 ≤ m * n := Int.mul_nonneg (by omega) (by omega)
  omega
/-- the sign -/
theorem sign_of {T B t b : Int} (hB : 0 < B) (h : T * b = t * B) (hb : b ≠ 0) : Int.sign T = Int.sign (t * b) := by
  have e : Int.sign T * Int.sign b = Int.sign t := by
    have := congrArg Int.sign h
    rw [Int.sign_mul, Int.sign_mul, Int.sign_eq_one_of_pos hB, Int.mul_one] at this
    exact this
  rw [Int.sign_mul, ← e, Int.mul_assoc]
  have : Int.sign b * Int.sign b = 1 := by
    rcases Int.lt_or_lt_of_ne hb with h | h
    · rw [Int.sign_eq_neg_one_of_neg h]; rfl
    · rw [Int.sign_eq_one_of_pos h]; rfl
  rw [this, Int.mul_one]
theorem cross {A B1 X B3 b y : Int} (h0 : B1 ≠ 0) (h1 : A * B1 = X * B3) (h2 : X * b = y * B1) : A * b = y * B3 := by
  have h : (A * b) * B1 = (y * B3) * B1 := by
    rw [Int.mul_right_comm, h1, Int.mul_right_comm, h2, Int.mul_right_comm]
  exact Int.eq_of_mul_eq_mul_right h0 h
theorem abs_he {T B t b : Int} (hB : 0 < B) (h : T * b = t * B) : (T.natAbs : Int) * (b.natAbs : Int) = (t.natAbs : Int) * B := by
  have e := congrArg Int.natAbs h
  rw [Int.natAbs_mul, Int.natAbs_mul] at e
  have e2 : ((T.natAbs * b.natAbs : Nat) : Int) = ((t.natAbs * B.natAbs : Nat) : Int) := by rw [e]
  rw [Int.natCast_mul, Int.natCast_mul] at e2
  rw [e2, show ((B.natAbs : Nat) : Int) = B by omega]
/-- a twin with both signs changed -/
theorem twin {T B t b T' B' : Int} (h0 : b ≠ 0) (h1 : T * b = t * B) (h2 : T' * -b = -t * B') : T * B' = T' * B := by
  have h : (T * B') * b = (T' * B) * b := by
    rw [Int.mul_right_comm, h1, Int.mul_right_comm T' B b]
    have : T' * b = t * B' := by
      rw [Int.mul_neg, Int.neg_mul] at h2
      omega
    rw [this, Int.mul_right_comm]
  exact Int.eq_of_mul_eq_mul_right h0 h
theorem same_iff {T B T' B' t b t' b' : Int} (c1 : Int.gcd T B = 1) (c2 : Int.gcd T' B' = 1) (p1 : 0 < B) (p2 : 0 < B') (h0 : b ≠ 0) (h0' : b' ≠ 0) (h1 : T * b = t * B) (h2 : T' * b' = t' * B') : (t * b' = t' * b) ↔ (T = T' ∧ B = B') := by
  constructor
  · intro h
    refine share_eq c1 c2 p1 p2 ?_
    have e : (T * B') * (b * b') = (T' * B) * (b * b') := by
      have a1 : (T * B') * (b * b') = (T * b) * (B' * b') := by
        rw [Int.mul_assoc, Int.mul_assoc]
        congr 1
        rw [← Int.mul_assoc, ← Int.mul_assoc, Int.mul_comm B' b]
      have a2 : (T' * B) * (b * b') = (T' * b') * (B * b) := by
        rw [Int.mul_assoc, Int.mul_assoc]
        congr 1
        rw [Int.mul_comm b b', ← Int.mul_assoc, ← Int.mul_assoc, Int.mul_comm B b']
      rw [a1, a2, h1, h2]
      have a3 : t * B * (B' * b') = (t * b') * (B * B') := by
        rw [Int.mul_assoc, Int.mul_assoc]
        congr 1
        rw [← Int.mul_assoc, Int.mul_comm (B * B') b']
      have a4 : t' * B' * (B * b) = (t' * b) * (B * B') := by
        rw [Int.mul_assoc, Int.mul_assoc]
        congr 1
        rw [← Int.mul_assoc, Int.mul_comm (B' * B) b, Int.mul_comm B' B]
      rw [a3, a4, h]
    exact Int.eq_of_mul_eq_mul_right (Int.mul_ne_zero h0 h0') e
  · rintro ⟨rfl, rfl⟩
    have e : (t * b') * B = (t' * b) * B := by
      rw [Int.mul_right_comm, ← h1, Int.mul_right_comm t' b B, ← h2, Int.mul_right_comm]
    exact Int.eq_of_mul_eq_mul_right (by omega) e
theorem sum_he {T1 B1 T2 B2 a0 a1 b0 b1 : Int} (h1 : T1 * a1 = a0 * B1) (h2 : T2 * b1 = b0 * B2) : (T1 * B2 + T2 * B1) * (a1 * b1) = (a0 * b1 + b0 * a1) * (B1 * B2) := by grind
theorem dif_he {T1 B1 T2 B2 a0 a1 b0 b1 : Int} (h1 : T1 * a1 = a0 * B1) (h2 : T2 * b1 = b0 * B2) : (T1 * B2 - T2 * B1) * (a1 * b1) = (a0 * b1 - b0 * a1) * (B1 * B2) := by grind
theorem mul_he {T1 B1 T2 B2 a0 a1 b0 b1 : Int} (h1 : T1 * a1 = a0 * B1) (h2 : T2 * b1 = b0 * B2) : T1 * T2 * (a1 * b1) = a0 * b0 * (B1 * B2) := by grind
/-- a number of at most k bits -/
def Sz (k : Nat) (x : Int) : Prop := x.natAbs < 2 ^ k
theorem Sz.mono {a b : Nat} {x : Int} (h : Sz a x) (hk : a ≤ b) : Sz b x := Nat.lt_of_lt_of_le h (Nat.pow_le_pow_right (by decide) hk)
theorem Sz.le {k : Nat} {x y : Int} (hx : Sz k x) (h : y.natAbs ≤ x.natAbs) : Sz k y := Nat.lt_of_le_of_lt h hx
theorem Sz.neg {k : Nat} {x : Int} (hx : Sz k x) : Sz k (-x) := by unfold Sz at *; omega
theorem Sz.mul {a b : Nat} {x y : Int} (hx : Sz a x) (hy : Sz b y) : Sz (a + b) (x * y) := by
  unfold Sz at *
  rw [Int.natAbs_mul, Nat.pow_add]
  exact Nat.mul_lt_mul'' hx hy
theorem Sz.add {a : Nat} {x y : Int} (hx : Sz a x) (hy : Sz a y) : Sz (a + 1) (x + y) := by
  unfold Sz at *
  rw [Nat.pow_succ]
  omega
theorem Sz.sub {a : Nat} {x y : Int} (hx : Sz a x) (hy : Sz a y) : Sz (a + 1) (x - y) := by
  unfold Sz at *
  rw [Nat.pow_succ]
  omega
theorem Sz.one {k : Nat} (h : 1 ≤ k) : Sz k 1 := Sz.mono (a := 1) (by unfold Sz; decide) h
theorem Sz.pow {k : Nat} {x : Int} (h1 : 1 ≤ k) (hx : Sz k x) (n : Nat) : Sz (k * n + 1) (x ^ n) := by
  induction n with
  | zero => rw [Int.pow_zero]; exact Sz.one (by omega)
  | succ n ih =>
    rw [Int.pow_succ]
    exact (ih.mul hx).mono (by rw [Nat.mul_succ]; omega)
theorem pow_cop {T B : Int} (h : Int.gcd T B = 1) (n : Nat) : Int.gcd (T ^ n) (B ^ n) = 1 := by rw [Int.pow_gcd_pow, h, Nat.one_pow]
theorem fdiv_abs {x y : Int} (hy : y ≠ 0) : (x.fdiv y).natAbs ≤ x.natAbs := by
  have key : ∀ a b : Int, 0 < b → (a.fdiv b).natAbs ≤ a.natAbs := by
    intro a b hb
    rw [Int.fdiv_eq_ediv_of_nonneg a (by omega)]
    exact Int.natAbs_ediv_le_natAbs a b
  rcases Int.lt_or_lt_of_ne hy with h | h
  · have e := key (-x) (-y) (by omega)
    rw [Int.neg_fdiv_neg] at e
    omega
  · exact key x y h
theorem low_of {T B X Y : Int} (hc : Int.gcd T B = 1) (hB : 0 < B) (hY : Y ≠ 0) (h : T * Y = X * B) : T.natAbs ≤ X.natAbs ∧ B.natAbs ≤ Y.natAbs := by
  have d1 : B ∣ Y := dvd_cop (b := T) ⟨X, by rw [h, Int.mul_comm]⟩ (by rw [Int.gcd_comm]; exact hc)
  have d2 : T ∣ X := dvd_cop (b := B) ⟨Y, by rw [h, Int.mul_comm]⟩ hc
  constructor
  · by_cases hX : X = 0
    · subst hX
      rw [Int.zero_mul] at h
      rcases Int.mul_eq_zero.mp h with h | h
      · rw [h]; decide
      · exact absurd h hY
    · exact Nat.le_of_dvd (by omega) (Int.natAbs_dvd_natAbs.mpr d2)
  · exact Nat.le_of_dvd (by omega) (Int.natAbs_dvd_natAbs.mpr d1)
theorem fmod_mul (x : Int) {y : Int} (hy : y ≠ 0) : 0 ≤ x.fmod y * y := by
  rcases Int.lt_or_lt_of_ne hy with h | h
  · have e := fmod_neg x (-y)
    rw [Int.neg_neg] at e
    have h1 := Int.fmod_nonneg_of_pos (-x) (b := -y) (by omega)
    have h2 : 0 ≤ (-(x.fmod y)) * (-y) := Int.mul_nonneg (by omega) (by omega)
    rw [Int.neg_mul_neg] at h2
    exact h2
  · exact Int.mul_nonneg (Int.fmod_nonneg_of_pos x h) (by omega)
theorem floor_same {x y X Y : Int} (hy : y ≠ 0) (hY : 0 < Y) (h : x * Y = X * y) : x.fdiv y * Y ≤ X ∧ X < (x.fdiv y + 1) * Y := by
  have e1 := Int.mul_fdiv_add_fmod x y
  have e2 : y * (X - x.fdiv y * Y) = x.fmod y * Y := by grind
  have e3 : (x.fdiv y + 1) * Y = x.fdiv y * Y + Y := by grind
  have hl := fmod_lt (x := x) hy
  have hs := fmod_mul x hy
  generalize x.fmod y = r at *
  generalize hD : X - x.fdiv y * Y = D at *
  rw [e3]
  rcases Int.lt_or_lt_of_ne hy with g | g
  · have hr : r ≤ 0 := by
      rcases Int.lt_or_le 0 r with q | q
      · have := Int.mul_neg_of_pos_of_neg q g; omega
      · exact q
    have hrY : r * Y ≤ 0 := Int.mul_nonpos_of_nonpos_of_nonneg hr (by omega)
    have d0 : 0 ≤ D := by
      rcases Int.lt_or_le D 0 with q | q
      · have := Int.mul_pos_of_neg_of_neg g q; omega
      · exact q
    have d1 : D < Y := by
      rcases Int.lt_or_le D Y with q | q
      · exact q
      · have a1 := Int.mul_le_mul_of_nonpos_left (show y ≤ 0 by omega) q
        have a2 := Int.mul_lt_mul_of_pos_right (show y < r by omega) hY
        omega
    omega
  · have hr : 0 ≤ r := by
      rcases Int.lt_or_le r 0 with q | q
      · have := Int.mul_neg_of_neg_of_pos q g; omega
      · exact q
    have hrY : 0 ≤ r * Y := Int.mul_nonneg hr (by omega)
    have d0 : 0 ≤ D := by
      rcases Int.lt_or_le D 0 with q | q
      · have := Int.mul_neg_of_pos_of_neg g q; omega
      · exact q
    have d1 : D < Y := by
      rcases Int.lt_or_le D Y with q | q
      · exact q
      · have a1 := Int.mul_le_mul_of_nonneg_left q (show 0 ≤ y by omega)
        have a2 := Int.mul_lt_mul_of_pos_right (show r < y by omega) hY
        omega
    omega
theorem mod_sign {T B X b b' t' b0 b1 : Int} (hb : 0 < b) (hb' : 0 < b') (hB : 0 < B) (h1 : T * (b * b') = X * B) (h2 : t' * b1 = b0 * b') (hX : 0 ≤ X * (b * t')) : 0 ≤ T * b0 * b1 := by
  have e : T * b0 * b1 * (b' * (b * b') * b) = (X * (b * t')) * B * (b1 * b1) := by grind
  have p : 0 < b' * (b * b') * b := Int.mul_pos (Int.mul_pos hb' (Int.mul_pos hb hb')) hb
  have q : 0 ≤ (X * (b * t')) * B * (b1 * b1) := Int.mul_nonneg (Int.mul_nonneg hX (by omega)) (by
    rcases Int.lt_or_le b1 0 with z | z
    · exact Int.le_of_lt (Int.mul_pos_of_neg_of_neg z z)
    · exact Int.mul_nonneg z z)
  rcases Int.lt_or_le (T * b0 * b1) 0 with z | z
  · have := Int.mul_neg_of_neg_of_pos z p; omega
  · exact z
theorem mod_abs {T B X b b' t' b0 b1 : Int} (hb : 0 < b) (hb' : 0 < b') (hB : 0 < B) (h0 : b1 ≠ 0) (h1 : T * (b * b') = X * B) (h2 : t' * b1 = b0 * b') (hX : X.natAbs < (b * t').natAbs) : (T * b1).natAbs < (b0 * B).natAbs := by
  have e1 := congrArg Int.natAbs h1
  have e2 := congrArg Int.natAbs h2
  rw [Int.natAbs_mul, Int.natAbs_mul, Int.natAbs_mul] at e1
  rw [Int.natAbs_mul, Int.natAbs_mul] at e2
  rw [Int.natAbs_mul] at hX
  rw [Int.natAbs_mul, Int.natAbs_mul]
  have pb : 0 < b.natAbs := by omega
  have pb' : 0 < b'.natAbs := by omega
  have pB : 0 < B.natAbs := by omega
  have p1 : 0 < b1.natAbs := by omega
  generalize b.natAbs = b at *
  generalize b'.natAbs = c at *
  generalize B.natAbs = B at *
  generalize b1.natAbs = p at *
  generalize T.natAbs = T at *
  generalize X.natAbs = X at *
  generalize t'.natAbs = t at *
  generalize b0.natAbs = o at *
  have h3 : X * (B * p * c) < b * t * (B * p * c) := Nat.mul_lt_mul_of_pos_right hX (Nat.mul_pos (Nat.mul_pos pB p1) pb')
  have e3 : T * p * (b * c * c) = X * (B * p * c) := by grind
  have e4 : o * B * (b * c * c) = b * t * (B * p * c) := by grind
  exact Nat.lt_of_mul_lt_mul_right (a := b * c * c) (by omega)
theorem mod_he {t b t' b' q T2 B2 T B : Int} (hB2 : B2 ≠ 0) (hb : b ≠ 0) (h1 : T2 * (b' * 1) = t' * q * B2) (h2 : T * (b * B2) = (t * B2 - T2 * b) * B) : T * (b * b') = (t * b' - b * t' * q) * B := by
  refine cross (B1 := b * B2) (Int.mul_ne_zero hb hB2) h2 ?_
  grind
theorem rest_he {t b t' b' q a0 a1 b0 b1 : Int} (h1 : t * a1 = a0 * b) (h2 : t' * b1 = b0 * b') : (t * b' - b * t' * q) * (a1 * b1) = (a0 * b1 - q * b0 * a1) * (b * b') := by grind
theorem over_he {t b t' b' a0 a1 b0 b1 : Int} (h1 : t * a1 = a0 * b) (h2 : t' * b1 = b0 * b') : t * b' * (a1 * b0) = a0 * b1 * (b * t') := by grind
end GM

/-! GR: classes whose __init__ takes *args. -/
namespace GG
open PySem L2 PyProof.Rows
theorem cxUpN {P : Program} {w : World} : StX.CXUp (L2N.CX P w) := by
  rintro outer s H s2 H2 E e s' un kp ho ⟨a, B, H', cls, d, ea, fl, hok, ub, na, os, ag, he⟩
  refine ⟨a, B, H', cls, d, ea, fl, hok, ⟨fun b o q n hb => ub.keep b o (kp b o q) (un.free b o q n (by simp)) hb, fun b o q hb => ub.slot b o (kp b o q) hb, fun b o q n => ub.free b o (kp b o q) (un.free b o q n (by simp)),
    fun b o q hb => ub.there b o (kp b o q) hb, fun b xs q => ub.tups b xs (un.tups b xs q), fun b o xs q => ub.frzs b o xs (un.frzs b o xs q), fun b ps q => ?_⟩, na, os.trans ho, ag, he⟩
  obtain ⟨m1, e1⟩ := un.tbls b ps q
  obtain ⟨m2, e2⟩ := ub.tbls b _ e1
  exact ⟨m1 ++ m2, by rw [e2, Array.append_assoc]⟩
/-- the promise of a def with one parameter and *args, told of what is passed -/
def star1 (sp : Sp) : Sp := fun vs H Q E => ∃ ws rest, vs = ws ++ rest ∧ ws.length = 1 ∧ rest.length ≤ sizeLine ∧ ∀ p, H p = Option.none → sp (ws ++ [V.ref p]) (upd H p (.tup rest)) Q E
theorem Fun.okStar {P : Program} {w : World} {K : PySem.W.Frag} {mg : Str → Option Value} {base : Heap} {x qual : Str} {st : Stmt} {f : Addr} {fd : FuncData} {N : List Str} {p1 pv : Str} {k : Nat} {sp : Sp} (F : Fun K x qual st f fd) (S : FnScope N ([p1] ++ [pv]) (defScope st))
    (h0 : ∀ (kV doc pm : Value) (an : Option Addr) (cdv ct a : Value), bindArgs (PySem.W.fnOf x qual (defArgs st) (defBody st) (defScope st) .none kV doc pm an cdv ct) ⟨[a], []⟩ = (newTuple [] >>= fun t => pure [(p1, a), (pv, t)]))
    (h1 : ∀ (kV doc pm : Value) (an : Option Addr) (cdv ct a r : Value) (rs : List Value), bindArgs (PySem.W.fnOf x qual (defArgs st) (defBody st) (defScope st) .none kV doc pm an cdv ct) ⟨a :: r :: rs, []⟩ = (newTuple (r :: rs) >>= fun t => pure [(p1, a), (pv, t)]))
    (hbody : ∀ (cdv : Value) (A : Around) (outer : List Env) (s : Shared) (H : Hp) (vs : List V) (Q : VK) (E : XK), Room k (A.deeper (envOfC qual (defScope st) s.heap.objs.size f cdv)) → sp vs H Q E →
      ∃ t, PSs (cxOf (L2N.CX P w) P w K mg base N qual (defScope st) f cdv A outer s H E) (defBody st) t ∧ t { nx := fun _ H' => Q .non H', rt := Q } (start N vs) H) : FnR P w K mg base (L2N.CX P w) (k + 1) f (star1 sp) := by
  obtain ⟨oc, od, kV, doc, pm, an, cdv, ct, osl, rfl, lk, hcd⟩ := F.ex
  refine StX.fn_star (ps := [p1]) (pv := pv) lk hcd S cxUpN (fun us rest hl => ?_) fun A outer s H vs Q E hr hsp => hbody cdv A outer s H vs Q E hr hsp
  match us, hl with
  | [a], _ =>
    cases rest with
    | nil => exact h0 kV doc pm an cdv ct a
    | cons r rs => exact h1 kV doc pm an cdv ct a r rs
/-- the class x, at C, is made by its __init__ with *args -/
structure McR (P : Program) (w : World) (K : PySem.W.Frag) (mg : Str → Option Value) (base : Heap) (x : Str) (C : Addr) (k : Nat) (sp : Sp) : Prop where
  ex : ∃ f, FnR P w K mg base (L2N.CX P w) k f (star1 sp) ∧ Mk K C f ∧ mg x = some (.ref C)
def rMkR (C : Addr) (sp : Sp) (E : XK) (vs : List V) (H : Hp) (Q : VK) : Prop := ∀ x dx, H x = Option.none → H dx = Option.none → dx ≠ x →
  star1 sp (V.ref x :: vs) (upd (upd H dx (.own x)) x (.ins C dx [])) (fun v H2 => v = .non ∧ Q (.ref x) H2) E
def tMkR (C : Addr) (sp : Sp) (E : L2.St → XK) (t : TA) : TE := fun σ H Q => t σ H fun vs H1 => rMkR C sp (E σ) vs H1 Q
def rStar (K : PySem.W.Frag) (C : Addr) (sp : Sp) (E : XK) (y : V) (H : Hp) (Q : VK) : Prop := ∃ a xs, y = V.ref a ∧ (SqT K H a xs ∨ SqL K H a xs) ∧ rMkR C sp E xs H Q
def tMkRS (K : PySem.W.Frag) (C : Addr) (sp : Sp) (E : L2.St → XK) (te : TE) : TE := fun σ H Q => te σ H fun y H1 => rStar K C sp (E σ) y H1 Q
section
variable {X : Cx} {k : Nat} {C f : Addr} {sp : Sp} {E : L2.St → XK} {x : Str} {p pos p2 : Pos} {e : Expr} {es : List Expr} {te : TE} {t : TA}
theorem run_mkR {pins : List (Addr × Obj)} {σ : L2.St} {H : Hp} {s : Shared} {Q : VK} {us : List Value} {vs : List V} (M : Mk X.K C f) (F : FnR X.prog X.w X.K X.mg X.base (L2N.CX X.prog X.w) k f (star1 sp)) (hr : Room (k + 1) X.A) (hx : Ps X E) (I : L2.Inv X pins σ H s) (r : Vals vs us)
    (h : rMkR C sp (E σ) vs H Q) : wpAny (model X.prog X.w) X.A (call (.ref C) us) (EP X pins σ Q) X.xe s := by
  have hq := h (s.heap.objs.size + 1) s.heap.objs.size (I.hok.fresh (Nat.le_succ _)) (I.hok.fresh (Nat.le_refl _)) (Nat.ne_of_lt (Nat.lt_succ_self _))
  have I2 := Inv.made (C := C) I
  have r2 : Vals (V.ref (s.heap.objs.size + 1) :: vs) (Value.ref (s.heap.objs.size + 1) :: us) := .cons rfl r
  refine wpAny_call (make_map (f := f) I.kIn M.makes M.init (beq_iff_eq.mp M.fn) (codeAny_mono (F _ X.stack _ _ (Value.ref (s.heap.objs.size + 1) :: us) _ _ (E σ) (hr.make C us []) (I2.env0.make C us []) r2 hq) fun r s' hq' => ?_))
  cases r with
  | error e => exact hx σ pins _ _ e s' I2 hq'
  | ok fl =>
    cases fl with
    | ret u =>
      obtain ⟨v, H', I3, rv, ev, q3⟩ := I2.after hq'
      subst ev
      exact ⟨rv, ⟨V.ref (s.heap.objs.size + 1), H', I3, rfl, q3⟩⟩
    | next => exact False.elim hq'
    | brk => exact False.elim hq'
    | cont => exact False.elim hq'
/-- C(e, ..) -/
theorem pe_mkR (M : McR X.prog X.w X.K X.mg X.base x C k sp) (hr : Room (k + 1) X.A) (hx : Ps X E) (ha : PA X (e :: es) t) (hg : Gl X x := by rfl) (hdb : (x == ("__debug__" : Str)) = false := by decide)
    (he : starEach (e :: es) X.env = (false, eval e X.env) :: starEach es X.env := by rfl) (hpl : (backTo pos (starEach es X.env)).any (·.1) = false := by rfl) : PE X (.Call (.Name x p) (e :: es) [] pos) (tMkR C sp E t) := by
  obtain ⟨f, F, M, hm⟩ := M.ex
  refine ⟨fun pins s σ H Q I h => ?_⟩
  refine wpAny_Call_Name_kw (ld_glob I hg hm ?_ hdb)
  refine PySem.W.callWith_K (h₀ := X.base) I.ok.mod.kin M.kp (thn (ha.run pos pins s σ H _ I h) fun us s1 ⟨vs, H1, I1, r, q⟩ => ⟨I1.kIn, ?_⟩) he hpl
  exact run_mkR M F hr hx I1 r q
/-- C() -/
theorem pe_mkR0 (M : McR X.prog X.w X.K X.mg X.base x C k sp) (hr : Room (k + 1) X.A) (hx : Ps X E) (hg : Gl X x := by rfl) (hdb : (x == ("__debug__" : Str)) = false := by decide) : PE X (.Call (.Name x p) [] [] pos) (tMkR C sp E tNil) := by
  obtain ⟨f, F, M, hm⟩ := M.ex
  refine ⟨fun pins s σ H Q I h => ?_⟩
  refine wpAny_Call_Name_kw (ld_glob I hg hm ?_ hdb)
  exact PySem.W.callWith_K0 I.kIn M.kp (run_mkR (us := []) (vs := []) M F hr hx I .nil h)
/-- C(*e) -/
theorem pe_mkRS (M : McR X.prog X.w X.K X.mg X.base x C k sp) (hr : Room (k + 1) X.A) (hx : Ps X E) (he : PE X e te) (hg : Gl X x := by rfl) (hdb : (x == ("__debug__" : Str)) = false := by decide)
    (hst : starEach [.Starred e p2] X.env = [(true, eval e X.env)] := by rfl) : PE X (.Call (.Name x p) [.Starred e p2] [] pos) (tMkRS X.K C sp E te) := by
  obtain ⟨f, F, M, hm⟩ := M.ex
  refine ⟨fun pins s σ H Q I h => ?_⟩
  refine wpAny_Call_Name_kw (ld_glob I hg hm ?_ hdb)
  refine PySem.W.callWith_S (h₀ := X.base) I.ok.mod.kin M.kp (thn (he.run pins s σ H _ I h) fun v s1 ⟨y, H1, I1, ry, a, xs, ey, hxs, q⟩ => ?_) hst
  subst ey
  obtain rfl : v = Value.ref a := ry
  exact StX.star_any I1 hxs fun us s2 I2 rv => ⟨I2.kIn, run_mkR M F hr hx I2 rv q⟩
end
section
variable {K : PySem.W.Frag} {σ : L2.St} {H : Hp} {te : TE} {as : TA} {Q : VK} {E : L2.St → XK} {sp : Sp} {C a : Addr} {xs : List V}
instance i_mkR : St1 (tMkR C sp E as σ H Q) (as σ H fun vs H1 => rMkR C sp (E σ) vs H1 Q) := ⟨fun h => h⟩
instance i_mkRS : St1 (tMkRS K C sp E te σ H Q) (te σ H fun y H1 => rStar K C sp (E σ) y H1 Q) := ⟨fun h => h⟩
theorem v_starL {E : XK} (ha : H a = some (.lst xs)) (q : rMkR C sp E xs H Q) : rStar K C sp E (.ref a) H Q := ⟨a, xs, rfl, .inr (SqL.of ha), q⟩
end
end GG

/-! GZ: list(zip(a, b)) of two tuples. -/
namespace GG
open PySem PySem.Spec L2 PyProof.Rows
open PySem.Sem (wp)
section
variable {prog : Program} {w : World} {A : Around} {E : Value → Shared → Prop} {s : Shared} {z TI TO T i1 i2 l1 l2 : Addr} {f : Bool} {oT : Obj} {k1 k2 : Nat} {xs ys : Array Value}
theorem zheld_item {x y : Value} {Q : Value → Shared → Prop} (D : ZipApart z TI TO i1 i2 l1 l2) (hz : IsZipHeld s.heap z TI TO T f) (hT : s.heap.get? T = some oT) (hTI : IsPair s.heap TI (.ref i1) (.ref i2)) (h1 : s.heap.IsTupleIter i1 l1 k1) (h2 : s.heap.IsTupleIter i2 l2 k2)
    (hl1 : s.heap.IsTuple l1 xs) (hl2 : s.heap.IsTuple l2 ys) (hx : xs[k1]? = some x) (hy : ys[k2]? = some y)
    (hQ : ∀ h', IsZipHeld h' z TI TO T true → h'.IsTupleIter i1 l1 (k1 + 1) → h'.IsTupleIter i2 l2 (k2 + 1) → IsPair h' s.heap.objs.size x y → (∀ c o, c ≠ z → c ≠ i1 → c ≠ i2 → s.heap.get? c = some o → h'.get? c = some o) → Q (.ref s.heap.objs.size) { s with heap := h' }) :
    wpAny (model prog w) A (Builtin.«zip.__next__» ⟨[.ref z], []⟩) (fun fin s' => ∃ v, fin = .done (.ret v) ∧ Q v s') E s := by
  refine wpAny_bind (m := field (.ref z) 2) (wpAny_field hz rfl (x := .bool false) rfl (wpAny_bind (m := field (.ref z) 3) (wpAny_field hz rfl (x := .ref TI) rfl (wpAny_bind (wpAny_seqItems hTI rfl ?_)))))
  refine wpAny_bind (m := Builtin.SmallTypes.ownedTupleIsFree (.ref z)) (wpAny_tupleHeld_zip hz hT fun ha hza sa => ?_)
  rw [if_neg Bool.false_ne_true]
  refine wpAny_bind ?_
  rw [← Array.forIn_toList]; simp only [List.forIn_cons, List.forIn_nil]
  refine wpAny_bind (wpAny_bind (wpAny_holding (wpAny_bind (m := Builtin.SmallTypes.nextOf (.ref i1)) (RZ.nextOf_tuple_item (s := { s with heap := ha }) (h1.extBut sa.extBut D.i1z) (hl1.extBut sa.extBut D.l1z) hx fun hb i1b sb => wpAny_pure (wpAny_pure ?_)))))
  refine wpAny_bind (wpAny_bind (wpAny_holding (wpAny_bind (m := Builtin.SmallTypes.nextOf (.ref i2)) (RZ.nextOf_tuple_item (s := { s with heap := hb }) ((h2.extBut sa.extBut D.i2z).extBut sb.extBut D.i12.symm) ((hl2.extBut sa.extBut D.l2z).extBut sb.extBut D.l2i1) hy fun hd i2d sd => wpAny_pure (wpAny_pure (wpAny_pure ?_))))))
  refine wpAny_bind (m := newTuple [x, y]) (wpAny_newTuple (wpAny_pure ⟨_, rfl, ?_⟩))
  have sz : hd.objs.size = s.heap.objs.size := by rw [sd.1, sb.1, sa.1]
  have new : IsPair (hd.push { cls := .type "tuple", data := .seq #[x, y] }) hd.objs.size x y := Heap.get?_push_size _ rfl
  show Q (.ref hd.objs.size) _
  rw [sz] at new ⊢
  exact hQ _ (Heap.get?_push_of_some _ (sd.extBut _ _ D.i2z.symm (sb.extBut _ _ D.i1z.symm hza))) ((i1b.extBut sd.extBut D.i12).at fun o e => Heap.get?_push_of_some _ e) (i2d.at fun o e => Heap.get?_push_of_some _ e) new
    fun c o n1 n2 n3 e => Heap.get?_push_of_some _ (sd.extBut _ _ n3 (sb.extBut _ _ n2 (sa.extBut _ _ n1 e)))
theorem zheld_end {Q : Fin → Shared → Prop} (hh : A.handled = none) (D : ZipApart z TI TO i1 i2 l1 l2) (hz : IsZipHeld s.heap z TI TO T f) (hT : s.heap.get? T = some oT) (hTI : IsPair s.heap TI (.ref i1) (.ref i2)) (h1 : s.heap.IsTupleIter i1 l1 k1) (hl1 : s.heap.IsTuple l1 xs) (hx : xs[k1]? = none)
    (hE : ∀ h' e, (∀ c o, c ≠ z → c ≠ i1 → s.heap.get? c = some o → h'.get? c = some o) → (∃ o, h'.get? e = some o ∧ o.cls = .type "StopIteration") → E (.ref e) { s with heap := h' }) :
    wpAny (model prog w) A (Builtin.«zip.__next__» ⟨[.ref z], []⟩) Q E s := by
  refine wpAny_bind (m := field (.ref z) 2) (wpAny_field hz rfl (x := .bool false) rfl (wpAny_bind (m := field (.ref z) 3) (wpAny_field hz rfl (x := .ref TI) rfl (wpAny_bind (wpAny_seqItems hTI rfl ?_)))))
  refine wpAny_bind (m := Builtin.SmallTypes.ownedTupleIsFree (.ref z)) (wpAny_tupleHeld_zip hz hT fun ha hza sa => ?_)
  rw [if_neg Bool.false_ne_true]
  refine wpAny_bind ?_
  rw [← Array.forIn_toList, List.forIn_cons]
  refine wpAny_bind (wpAny_bind (wpAny_holding (wpAny_bind (m := Builtin.SmallTypes.nextOf (.ref i1)) (RZ.nextOf_tuple_end (s := { s with heap := ha }) hh (h1.extBut sa.extBut D.i1z) (hl1.extBut sa.extBut D.l1z) hx fun hb e sb he => ?_))))
  exact hE hb e (fun c o n1 n2 q => sb _ _ n2 (sa.extBut _ _ n1 q)) he
/-- the zip stands at turn k: it has given out nothing yet, or what it gave is still there -/
def ZAt (h : Heap) (q z TI TO i1 i2 l1 l2 : Addr) (k : Nat) : Prop :=
  ((IsZip h z TI TO .none ∧ ∃ x y, IsPair h TO x y) ∨ ∃ T f oT, IsZipHeld h z TI TO T f ∧ h.get? T = some oT ∧ T ≠ z ∧ T ≠ i1 ∧ T ≠ i2 ∧ T ≠ q) ∧ IsPair h TI (.ref i1) (.ref i2) ∧ h.IsTupleIter i1 l1 k ∧ h.IsTupleIter i2 l2 k
theorem ZAt.keep {h h' : Heap} {k : Nat} {q : Addr} (Z : ZAt h q z TI TO i1 i2 l1 l2 k) (n : q ∉ [z, TI, TO, i1, i2]) (e : ∀ c o, c ≠ q → h.get? c = some o → h'.get? c = some o) : ZAt h' q z TI TO i1 i2 l1 l2 k := by
  obtain ⟨a, b, c, d⟩ := Z
  have m : ∀ c ∈ [z, TI, TO, i1, i2], c ≠ q := fun c hc r => n (r ▸ hc)
  refine ⟨?_, e _ _ (m _ (by simp)) b, c.at (fun o r => e _ _ (m _ (by simp)) r), d.at (fun o r => e _ _ (m _ (by simp)) r)⟩
  rcases a with ⟨a, x, y, p⟩ | ⟨T, f, oT, a, p, r⟩
  · exact .inl ⟨e _ _ (m _ (by simp)) a, x, y, e _ _ (m _ (by simp)) p⟩
  · exact .inr ⟨T, f, oT, e _ _ (m _ (by simp)) a, e _ _ r.2.2.2 p, r⟩
theorem ZAt.upd {h : Heap} {k : Nat} {q : Addr} {f : Obj → Obj} (Z : ZAt h q z TI TO i1 i2 l1 l2 k) (n : q ∉ [z, TI, TO, i1, i2]) : ZAt (h.update q f) q z TI TO i1 i2 l1 l2 k := Z.keep n fun c o m r => ((Heap.SameBut.update ..).2 c m).trans r
theorem znext_item {k : Nat} {q : Addr} {x y : Value} {Q : Option Value → Shared → Prop} (hq : q < s.heap.objs.size) (D : ZipApart z TI TO i1 i2 l1 l2) (Z : ZAt s.heap q z TI TO i1 i2 l1 l2 k) (hl1 : s.heap.IsTuple l1 xs) (hl2 : s.heap.IsTuple l2 ys) (hx : xs[k]? = some x) (hy : ys[k]? = some y)
    (hQ : ∀ h', ZAt h' q z TI TO i1 i2 l1 l2 (k + 1) → IsPair h' s.heap.objs.size x y → (∀ c o, c ∉ [z, TI, TO, i1, i2] → s.heap.get? c = some o → h'.get? c = some o) → Q (some (.ref s.heap.objs.size)) { s with heap := h' }) :
    wpAny (model prog w) A (pyNext (.ref z)) Q E s := by
  obtain ⟨a, hTI, h1, h2⟩ := Z
  obtain ⟨o1, e1, _⟩ := id h1
  obtain ⟨o2, e2, _⟩ := id h2
  have g1 : s.heap.objs.size ≠ i1 := Nat.ne_of_gt (Heap.lt_size e1)
  have g2 : s.heap.objs.size ≠ i2 := Nat.ne_of_gt (Heap.lt_size e2)
  rcases a with ⟨hz, u, v, hTO⟩ | ⟨T, f, oT, hz, hT, n1, n2, n3, n4⟩
  · have g0 : s.heap.objs.size ≠ z := Nat.ne_of_gt (Heap.lt_size hz)
    refine RZ.pyNext_zipT_item D hz hTI hTO h1 h2 hl1 hl2 hx hy fun h' z' TO' a1 a2 p sz k' => ?_
    exact hQ h' ⟨.inr ⟨_, false, _, z', p, g0, g1, g2, Nat.ne_of_gt hq⟩, k' _ _ D.TIz D.TITO D.TIi1 D.TIi2 hTI, a1, a2⟩ p fun c o n q => k' c o (fun e => n (by simp [e])) (fun e => n (by simp [e])) (fun e => n (by simp [e])) (fun e => n (by simp [e])) q
  · have g0 : s.heap.objs.size ≠ z := Nat.ne_of_gt (Heap.lt_size hz)
    have ty : s.TypeIs (.ref z) "zip" := ⟨_, hz, rfl⟩
    unfold pyNext
    refine wpAny_bind (wpAny_attempt (wpAny_callSpecial?_slot (name := Str.ofString "__next__") ty F.slot_zip_next (wpAny_call_entry F.slot_zip_next ty F.entry_zip_next (zheld_item D hz hT hTI h1 h2 hl1 hl2 hx hy fun h' z' a1 a2 p k' => wpAny_pure ?_) (F.args_zip_next_1 _))))
    exact hQ h' ⟨.inr ⟨T, true, oT, z', k' T _ n1 n2 n3 hT, n1, n2, n3, n4⟩, k' _ _ D.TIz D.TIi1 D.TIi2 hTI, a1, a2⟩ p fun c o n q => k' c o (fun e => n (by simp [e])) (fun e => n (by simp [e])) (fun e => n (by simp [e])) q
theorem znext_end {k : Nat} {q : Addr} {Q : Option Value → Shared → Prop} (hh : A.handled = none) (D : ZipApart z TI TO i1 i2 l1 l2) (Z : ZAt s.heap q z TI TO i1 i2 l1 l2 k) (hl1 : s.heap.IsTuple l1 xs) (hl2 : s.heap.IsTuple l2 ys) (hx : xs[k]? = none)
    (hQ : ∀ h', (∀ c o, c ∉ [z, TI, TO, i1, i2] → s.heap.get? c = some o → h'.get? c = some o) → Q none { s with heap := h' }) : wpAny (model prog w) A (pyNext (.ref z)) Q E s := by
  obtain ⟨a, hTI, h1, h2⟩ := Z
  rcases a with ⟨hz, u, v, hTO⟩ | ⟨T, f, oT, hz, hT, n1, n2, n3, n4⟩
  · exact RZ.pyNext_zipT_end hh D hz hTI hTO h1 h2 hl1 hl2 (.inl hx) fun h' k' => hQ h' fun c o n q => k' c o (fun e => n (by simp [e])) (fun e => n (by simp [e])) (fun e => n (by simp [e])) (fun e => n (by simp [e])) q
  · have ty : s.TypeIs (.ref z) "zip" := ⟨_, hz, rfl⟩
    unfold pyNext
    refine wpAny_bind (wpAny_attempt (wpAny_callSpecial?_slot (name := Str.ofString "__next__") ty F.slot_zip_next (wpAny_call_entry F.slot_zip_next ty F.entry_zip_next (zheld_end hh D hz hT hTI h1 hl1 hx fun h' e k' he => ?_) (F.args_zip_next_1 _))))
    obtain ⟨o, ho, hc⟩ := he
    exact wpAny_bind (wpAny_isInstance (T := "StopIteration") (b := true) ⟨o, ho, hc⟩ isSubtype_stop (wpAny_pure (hQ _ fun c o n q => k' c o (fun e => n (by simp [e])) (fun e => n (by simp [e])) q)))
end
/-- no length is told of a zip -/
theorem zip_hint {M : Model} {A : Around} {E : Value → Shared → Prop} {Q : Bool → Shared → Prop} {s : Shared} {z : Addr} (hz : s.TypeIs (.ref z) "zip") (h : Q true s) : wpAny M A (Builtin.List.listLengthHint (.ref z)) Q E s := by
  have n1 : typeLookup (.type "zip") "__len__" = pure none := am_miss_of_fast (by decide +kernel)
  have n2 : typeLookup (.type "zip") "__length_hint__" = pure none := am_miss_of_fast (by decide +kernel)
  unfold Builtin.List.listLengthHint
  refine wpAny_bind (wpAny_bind (wpAny_typeOf hz ?_))
  rw [n1]
  refine wpAny_pure ?_
  refine PySem.W.KFB.if_not rfl (PySem.W.KFB.if_not rfl ?_)
  refine wpAny_bind (wpAny_bind (wpAny_typeOf hz ?_))
  rw [n2]
  exact wpAny_pure (wpAny_pure h)
theorem Ext.sqT {K : PySem.W.Frag} {H H' : Hp} {a : Addr} {xs : List V} (e : Ext H H') (h : SqT K H a xs) : SqT K H' a xs := by
  rcases h with h | h
  · rcases h with h | ⟨o, h⟩
    · exact .inl (.inl (e _ _ h))
    · exact .inl (.inr ⟨o, e _ _ h⟩)
  · exact .inr h
section
variable {X : Cx} {pins : List (Addr × Obj)} {σ : L2.St} {A1 : Around} {z TI TO i1 i2 a b q : Addr} {xs ys : List V} {Rs : Result → Shared → Prop}
theorem zip_loop (hc : A1.in1.handled = none) (D : ZipApart z TI TO i1 i2 a b) (hlen : xs.length = ys.length) (hsz : xs.length < sizeLine) {H0 : Hp} (hq0 : H0 q = none) (ha0 : SqT X.K H0 a xs) (hb0 : SqT X.K H0 b ys) (hqz : q ∉ [z, TI, TO, i1, i2])
    (hdone : ∀ ts H s, Inv X pins σ H s → Ext H0 H → H q = some (.lst (ts.map V.ref)) → Paired (fun t (p : V × V) => H t = some (.tup [p.1, p.2])) ts (xs.zip ys) → Rs (.ok (.ret .none)) s) :
    ∀ (m i : Nat) (ts : List Addr) (H : Hp) (s : Shared), m + i = xs.length → Inv X pins σ H s → ZAt s.heap q z TI TO i1 i2 a b i → (∀ c ∈ [z, TI, TO, i1, i2], FpOk X pins H c) → Ext H0 H → (∀ c ∈ [z, TI, TO, i1, i2], c < s.heap.objs.size) → H q = some (.lst (ts.map V.ref)) → ts.length = i → 
      Paired (fun t (p : V × V) => H t = some (.tup [p.1, p.2])) ts ((xs.zip ys).take i) → codeAny (model X.prog X.w) A1 (.builtin "list.extend.loop" ⟨[.ref q, .ref z, .none], []⟩) Rs s := by
  intro m
  induction m with
  | zero =>
    intro i ts H s hm I Z fp e low hq hl pr
    have ha := e.sqT ha0
    have hb := e.sqT hb0
    refine codeAny_builtin PySem.F.entry_extend_loop ?_
    rw [Around.under_plainId PySem.F.plain_extend_loop _]
    obtain ⟨its, rv, p, _⟩ := I.tuple ha
    obtain ⟨its2, rv2, p2, _⟩ := I.tuple hb
    have l1 := rv.length
    refine wpAny_bind (m := pyNext (.ref z)) (znext_end hc D Z p p2 (by simp; omega) fun h' k => ?_)
    refine wpAny_pure (hdone ts H _ (I.turnedL (t' := s.toks) (fun c o n q => k c o n q) fp) e hq ?_)
    rwa [List.take_of_length_le (by rw [List.length_zip]; omega)] at pr
  | succ m ih =>
    intro i ts H s hm I Z fp e low hq hl pr
    have ha := e.sqT ha0
    have hb := e.sqT hb0
    refine codeAny_builtin PySem.F.entry_extend_loop ?_
    rw [Around.under_plainId PySem.F.plain_extend_loop _]
    obtain ⟨its, rv, p, _⟩ := I.tuple ha
    obtain ⟨its2, rv2, p2, _⟩ := I.tuple hb
    have hx : xs[i]? = some (xs[i]'(by omega)) := List.getElem?_eq_getElem (by omega)
    have hy : ys[i]? = some (ys[i]'(by omega)) := List.getElem?_eq_getElem (by omega)
    obtain ⟨u, hu, ru⟩ := rv.get hx
    obtain ⟨u2, hu2, ru2⟩ := rv2.get hy
    have hlt : q < s.heap.objs.size := by
      obtain ⟨_, _, _, _, _, e0⟩ := I.lstM hq
      exact Heap.lt_size e0
    refine wpAny_bind (m := pyNext (.ref z)) (znext_item hlt D Z p p2 (by simpa using hu) (by simpa using hu2) fun h' Z' pT k => ?_)
    have fresh : H s.heap.objs.size = none := I.hok.fresh (Nat.le_refl _)
    have new : ObjOk X.prog X.w (upd H s.heap.objs.size (.tup [xs[i]'(by omega), ys[i]'(by omega)])) h' s.heap.objs.size (.tup [xs[i]'(by omega), ys[i]'(by omega)]) :=
      ⟨by show 2 ≤ sizeLine; decide, [u, u2], .cons ru (.cons ru2 .nil), ⟨_, pT, rfl, _, rfl⟩⟩
    have I1 : Inv X pins σ (upd H s.heap.objs.size (.tup [xs[i]'(by omega), ys[i]'(by omega)])) { s with heap := h' } := I.turnedNew (t' := s.toks) (ch := [z, TI, TO, i1, i2]) k fp (Nat.le_refl _) new
    have qn : q ≠ s.heap.objs.size := ne_of_none hq fresh
    have e1 : Ext H (upd H s.heap.objs.size (.tup [xs[i]'(by omega), ys[i]'(by omega)])) := fun b o r => by rw [upd_ne (ne_of_none r fresh)]; exact r
    have hq1 := e1 q _ hq
    obtain ⟨z', its', k', r2, hl2, e2⟩ := I1.lstM hq1
    have ll := r2.length
    rw [List.length_map] at ll
    refine wpAny_bind (m := updateSeq q (·.push (.ref s.heap.objs.size))) (wpAny_updateSeq e2 rfl (wpAny_pure ⟨plainId_quiet PySem.F.plain_extend_loop _, ?_⟩) (by rw [List.size_toArray]; omega) (by show (its'.toArray.push _).size ≤ sizeLine + 1; rw [Array.size_push, List.size_toArray]; omega))
    have I2 := I1.lset (f := (·.push (.ref s.heap.objs.size))) (its' := its' ++ [.ref s.heap.objs.size]) (ys := (ts ++ [s.heap.objs.size]).map V.ref) (t' := s.toks) hq1 e2 (by simp) (by rw [List.map_append]; exact r2.append (.cons rfl .nil)) (by rw [List.length_map, List.length_append, List.length_singleton]; omega)
    refine ih (i + 1) (ts ++ [s.heap.objs.size]) _ _ (by omega) I2 (Z'.keep hqz fun c o n r => ((Heap.SameBut.update ..).2 c n).trans r) (fun c hc => ?_) ?_ (fun c hc => ?_) upd_same (by simp [hl]) ?_
    · have f0 := fp c hc
      have n1 : c ≠ q := fun r => hqz (by rw [← r]; exact hc)
      exact ⟨by rw [upd_ne n1, upd_ne (Nat.ne_of_lt (low c hc))]; exact f0.1, f0.2⟩
    · intro c o r
      rw [upd_ne (ne_of_none r hq0)]
      exact e1 _ _ (e c o r)
    · show c < (h'.update q _).objs.size
      rw [(Heap.SameBut.update ..).1]
      exact Nat.lt_trans (low c hc) (Heap.lt_size pT)
    · have hz : (xs.zip ys)[i]? = some (xs[i]'(by omega), ys[i]'(by omega)) := by rw [List.getElem?_eq_getElem (by rw [List.length_zip]; omega)]; simp
      have old : Paired (fun t (p : V × V) => upd (upd H s.heap.objs.size (.tup [xs[i]'(by omega), ys[i]'(by omega)])) q (.lst ((ts ++ [s.heap.objs.size]).map V.ref)) t = some (.tup [p.1, p.2])) ts ((xs.zip ys).take i) := by
        refine pr.mono fun t p r => ?_
        rw [upd_ne (ne_of r hq fun z => nomatch z)]
        exact e1 _ _ r
      rw [List.take_add_one, hz]
      exact old.snoc (by rw [upd_ne (Ne.symm qn), upd_same])
end
/-- list(zip(a, b)) of two tuples of one length -/
def rZipL (K : PySem.W.Frag) (vs : List V) (H : Hp) (Q : VK) : Prop := ∃ a b xs ys, vs = [.ref a, .ref b] ∧ SqT K H a xs ∧ SqT K H b ys ∧ xs.length = ys.length ∧ xs.length < sizeLine ∧
  ∀ q ts H', H q = none → Ext H H' → H' q = some (.lst (ts.map V.ref)) → Paired (fun t (p : V × V) => H' t = some (.tup [p.1, p.2])) ts (xs.zip ys) → Q (.ref q) H'
def tZipL (K : PySem.W.Frag) (t : TA) : TE := fun σ H Q => t σ H fun vs H1 => rZipL K vs H1 Q
section
variable {X : Cx} {e e2 : Expr} {ta : TA} {p pos p2 pos2 : Pos}
theorem pe_zipL (hc : X.calm = true) (hg : Gl X "list") (hm : X.mg "list" = none) (hg2 : Gl X "zip") (hm2 : X.mg "zip" = none) (ha : PA X [e, e2] ta)
    (hs2 : starEach [e, e2] X.env = (false, eval e X.env) :: starEach [e2] X.env := by rfl) (hpl2 : (backTo pos2 (starEach [e2] X.env)).any (·.1) = false := by rfl)
    (hs : starEach [.Call (.Name "zip" p2) [e, e2] [] pos2] X.env = (false, eval (.Call (.Name "zip" p2) [e, e2] [] pos2) X.env) :: starEach [] X.env := by rfl) :
    PE X (.Call (.Name "list" p) [.Call (.Name "zip" p2) [e, e2] [] pos2] [] pos) (tZipL X.K ta) := by
  refine ⟨fun pins s σ H Q I h => ?_⟩
  refine wpAny_Call_Name_kw (ld_blt I hg hm PyProof.Rows.boot_list ?_)
  refine PyProof.Rows.callWith_type1 ?_ hs rfl
  rw [hs]
  show wpAny _ _ (spliced ((false, eval (.Call (.Name "zip" p2) [e, e2] [] pos2) X.env) :: backTo pos (starEach [] X.env))) _ _ s
  refine Calls.spliced_cons ?_
  refine Call_ (ld_blt I hg2 hm2 PyProof.Rows.boot_zip (PyProof.Rows.callWith_type1 (thn (ha.run pos2 pins s σ H _ I h) fun us s1 ⟨vs, H1, I1, r1, q1⟩ => ?_) hs2 hpl2))
  obtain ⟨a, b, xs, ys, ex, ha1, hb1, hlen, hsz, kk⟩ := q1
  subst ex
  obtain ⟨u, u2, rfl, ru, ru2⟩ := r1.two
  cases ru
  cases ru2
  obtain ⟨its, rv, p1, _⟩ := I1.tuple ha1
  obtain ⟨its2, rv2, p2', _⟩ := I1.tuple hb1
  obtain ⟨o1, ho1, _⟩ := id p1
  obtain ⟨o2, ho2, _⟩ := id p2'
  refine RZ.call_zipT (show s1.heap.IsTuple a its.toArray from p1) (show s1.heap.IsTuple b its2.toArray from p2') fun h' hz hTI hTO h1 h2 hsz' hk => ?_
  refine Calls.spliced_nil ?_
  have D := PySem.W.ktu_apart s1.heap.objs.size a b (Heap.lt_size ho1) (Heap.lt_size ho2)
  have I2 : Inv X pins σ H1 { s1 with heap := h' } := I1.kept (t' := s1.toks) hk
  have in5 : ∀ c, c ∈ [s1.heap.objs.size + 4, s1.heap.objs.size + 2, s1.heap.objs.size + 3, s1.heap.objs.size, s1.heap.objs.size + 1] → s1.heap.objs.size ≤ c ∧ c < s1.heap.objs.size + 5 := fun c hcm => by
    simp only [List.mem_cons, List.mem_nil_iff, or_false] at hcm
    rcases hcm with r | r | r | r | r <;> subst r <;> exact ⟨by first | exact Nat.le_refl _ | exact Nat.le_add_right _ _, by first | exact Nat.lt_add_of_pos_right (by decide) | exact Nat.add_lt_add_left (by decide) _⟩
  have ty : ∀ s' : Shared, IsZip s'.heap (s1.heap.objs.size + 4) (s1.heap.objs.size + 2) (s1.heap.objs.size + 3) .none → s'.TypeIs (.ref (s1.heap.objs.size + 4)) "zip" := fun s' r => ⟨_, r, rfl⟩
  have fr : H1 h'.objs.size = none := I2.hok.fresh (Nat.le_refl _)
  refine callType_codes (Q₁ := fun obj s₁ => obj = .ref h'.objs.size ∧ s₁ = { s1 with heap := h'.push { cls := .type "list", data := .seq #[] } }) PySem.F.called_list (PySem.F.typeCall_list_1 _) PySem.F.entry_list_init (code_list_new _ ⟨rfl, rfl⟩) fun obj s₁ h₁ => ?_
  obtain ⟨rfl, rfl⟩ := h₁
  have hS : (h'.push { cls := .type "list", data := .seq #[] }).get? h'.objs.size = some { cls := .type "list", data := .seq #[] } := Heap.get?_push_size _ rfl
  refine ⟨⟨_, hS, rfl⟩, PySem.F.args_list_init_2 _ _, ?_⟩
  have I3 : Inv X pins σ (upd H1 h'.objs.size (.lst [])) { s1 with heap := h'.push { cls := .type "list", data := .seq #[] } } := I2.lnew (its := []) (t' := s1.toks) .nil (Nat.zero_le _)
  refine wpAny_bind (m := Builtin.List.listItems (.ref h'.objs.size)) ?_
  unfold Builtin.List.listItems
  refine wpAny_bind (wpAny_seqItems hS rfl (wpAny_pure ?_))
  refine wpAny_bind (m := updateSeq h'.objs.size (fun _ => #[])) (wpAny_updateSeq hS rfl ?_)
  have I4 := I3.lset (f := fun _ => #[]) (its := []) (its' := []) (ys := []) (t' := s1.toks) upd_same hS rfl .nil (Nat.zero_le _)
  rw [upd_upd] at I4
  refine wpAny_bind (m := letGo (#[] : Array Value).toList.reverse) (wpAny_letGo ?_)
  have keep : ∀ c o, c ≠ h'.objs.size → h'.get? c = some o → ((h'.push { cls := .type "list", data := .seq #[] }).update h'.objs.size (Obj.mapSeq fun _ => #[])).get? c = some o := fun c o n r => ((Heap.SameBut.update ..).2 c n).trans (Heap.get?_push_of_some _ r)
  have low5 : ∀ c, c ∈ [s1.heap.objs.size + 4, s1.heap.objs.size + 2, s1.heap.objs.size + 3, s1.heap.objs.size, s1.heap.objs.size + 1] → c < h'.objs.size := fun c hcm => by rw [hsz']; exact (in5 c hcm).2
  have ne5 : ∀ c, c ∈ [s1.heap.objs.size + 4, s1.heap.objs.size + 2, s1.heap.objs.size + 3, s1.heap.objs.size, s1.heap.objs.size + 1] → c ≠ h'.objs.size := fun c hcm => Nat.ne_of_lt (low5 c hcm)
  have Z0 : ZAt ((h'.push { cls := .type "list", data := .seq #[] }).update h'.objs.size (Obj.mapSeq fun _ => #[])) h'.objs.size (s1.heap.objs.size + 4) (s1.heap.objs.size + 2) (s1.heap.objs.size + 3) s1.heap.objs.size (s1.heap.objs.size + 1) a b 0 :=
    ⟨.inl ⟨keep _ _ (ne5 _ (by simp)) hz, _, _, keep _ _ (ne5 _ (by simp)) hTO⟩, keep _ _ (ne5 _ (by simp)) hTI, h1.at fun o r => keep _ _ (ne5 _ (by simp)) r, h2.at fun o r => keep _ _ (ne5 _ (by simp)) r⟩
  unfold Builtin.List.listExtendWith
  have zt := ty { s1 with heap := (h'.push { cls := .type "list", data := .seq #[] }).update h'.objs.size (Obj.mapSeq fun _ => #[]) } (keep _ _ (ne5 _ (by simp)) hz)
  refine wpAny_bind (wpAny_typeOf zt ?_)
  have q1 : Builtin.List.listSameRef (.ref h'.objs.size) (.ref (s1.heap.objs.size + 4)) = false := by simp [Builtin.List.listSameRef, Ne.symm (ne5 (s1.heap.objs.size + 4) (by simp))]
  have q2 : (Value.type "zip" == Value.type "list") = false := rfl
  have q3 : (Value.type "zip" == Value.type "tuple") = false := rfl
  simp only [q1, q2, q3, Bool.or_false, Bool.false_eq_true, if_false]
  refine wpAny_bind (wpAny_pyIter_zip (keep _ _ (ne5 _ (by simp)) hz) ?_)
  refine wpAny_bind (wpAny_holding (zip_hint zt ?_))
  rw [Bool.true_or, if_pos rfl]
  obtain ⟨w4, its4, k4, r4, l4, e4⟩ := I4.lstM upd_same
  cases r4
  refine wpAny_bind (wpAny_rule (wpAny_bind ?_))
  refine wpAny_bind (m := updateSeq h'.objs.size (·.push .none)) (wpAny_updateSeq e4 rfl ?_)
  have I5 := I4.lset (f := (·.push Value.none)) (its' := [Value.none]) (ys := [.non]) (t' := s1.toks) upd_same e4 (by simp) (.cons rfl .nil) (by rw [List.length_singleton, sizeLine_eq]; decide)
  obtain ⟨w5, its5, k5, r5, l5, e5⟩ := I5.lstM upd_same
  obtain ⟨u5, rfl, ru5⟩ := r5.one
  refine wpAny_updateSeq e5 rfl (wpAny_pure ⟨plainId_quiet PySem.F.plain_extend_loop _, ?_⟩) (by show 1 ≤ sizeLine; rw [sizeLine_eq]; decide) (Nat.zero_le _)
  have I6 := I5.lset (f := (·.pop)) (its := [u5]) (its' := []) (ys := []) (t' := s1.toks) upd_same e5 (by rfl) .nil (Nat.zero_le _)
  rw [upd_upd, upd_upd] at I6
  have nq : h'.objs.size ∉ [s1.heap.objs.size + 4, s1.heap.objs.size + 2, s1.heap.objs.size + 3, s1.heap.objs.size, s1.heap.objs.size + 1] := fun r => Nat.lt_irrefl _ (low5 _ r)
  refine zip_loop (A1 := X.A.in1) (Rs := wants (fun r s₂ => r = .none ∧ EP X pins σ Q (.ref h'.objs.size) s₂) X.xe) (I2.ok.hd hc) D hlen hsz fr ha1 hb1 nq (fun ts H s' I' e' hq' pr => ⟨rfl, .ref h'.objs.size, H, I', rfl, kk _ ts H fr e' hq' pr⟩) xs.length 0 [] _ _ (Nat.add_zero _) I6 ((Z0.upd nq).upd nq) (fun c hcm => ?_) ?_ (fun c hcm => ?_) upd_same rfl .nil
  · have f0 := I1.fpOk (H' := H1) (in5 c hcm).1 (I1.hok.fresh (in5 c hcm).1)
    exact ⟨by rw [upd_ne (ne5 c hcm)]; exact f0.1, f0.2⟩
  · intro c o r
    rw [upd_ne (ne_of_none r fr)]
    exact r
  · refine Nat.lt_of_lt_of_le (low5 c hcm) ?_
    show _ ≤ (Heap.update _ _ _).objs.size
    rw [(Heap.SameBut.update ..).1, (Heap.SameBut.update ..).1, (Heap.SameBut.update ..).1, Heap.size_push]
    exact Nat.le_succ _
end
section
variable {K : PySem.W.Frag} {σ : L2.St} {H : Hp} {as : TA} {Q : VK} {a b : Addr} {xs ys : List V}
instance i_zipL : St1 (tZipL K as σ H Q) (as σ H fun vs H1 => rZipL K vs H1 Q) := ⟨fun h => h⟩
theorem v_zipL (ha : H a = some (.tup xs)) (hb : H b = some (.tup ys)) (hl : xs.length = ys.length) (hs : xs.length < sizeLine) (k : ∀ q ts H', H q = none → Ext H H' → H' q = some (.lst (ts.map V.ref)) → Paired (fun t (p : V × V) => H' t = some (.tup [p.1, p.2])) ts (xs.zip ys) → Q (.ref q) H') : rZipL K [.ref a, .ref b] H Q :=
  ⟨a, b, xs, ys, rfl, .inl (.inl ha), .inl (.inl hb), hl, hs, k⟩
end
end GG

/-! GI: list(o), o an own instance whose __iter__ gives a tuple's iterator; iter(tuple). -/
namespace GG
open PySem PySem.Spec L2 PyProof.Rows
/-- the tuple at l, walked to place i by the iterator at it -/
def TIt (l it : Addr) (i : Nat) : HO := .ext fun h => h.IsTupleIter it l i
/-- an object of no further use -/
def Junk (it : Addr) : HO := .ext fun h => ∃ o, h.get? it = some o
theorem tit_ok {P : Program} {w : World} {H : Hp} {h : Heap} {l it : Addr} {i : Nat} (e : h.IsTupleIter it l i) : ObjOk P w H h it (TIt l it i) := ⟨e, (let ⟨o, ho, _⟩ := e; ⟨o, ho⟩), fun h1 h2 q k => q.at k⟩
theorem junk_ok {P : Program} {w : World} {H : Hp} {h : Heap} {it : Addr} (e : ∃ o, h.get? it = some o) : ObjOk P w H h it (Junk it) := ⟨e, e, fun h1 h2 q k => let ⟨o, ho⟩ := q; ⟨o, k o ho⟩⟩
section
variable {prog : Program} {w : World} {A : Around} {E : Value → Shared → Prop} {s : Shared} {it l : Addr} {i : Nat} {xs : Array Value}
theorem iter_tup {Q : Value → Shared → Prop} (hl : s.heap.IsTuple l xs) (h : ∀ h', h'.IsTupleIter s.heap.objs.size l 0 → (∀ b o, s.heap.get? b = some o → h'.get? b = some o) → Q (.ref s.heap.objs.size) { s with heap := h' }) : wpAny (model prog w) A (call (.builtin "iter") [.ref l]) Q E s := by
  refine Calls.call_function_entry (by decide +kernel) (by decide +kernel) PySem.W.kdk_entry_iter (PySem.W.kdk_args_iter _) ?_
  unfold Builtin.«iter»
  refine wpAny_bind (m := someArgs "iter" 1 2 _) (wpAny_of_eq (a := [Value.ref l]) (by first | rfl | kernel_rfl!) (wpAny_bind (m := pyIter (.ref l)) (wpAny_pyIter_tuple hl (wpAny_pure ⟨_, rfl, h _ ⟨_, Heap.get?_push_size _ rfl, rfl, rfl⟩ fun b o e => Heap.get?_push_of_some _ e⟩))))
theorem tnext_end {Q : Option Value → Shared → Prop} (hh : A.handled = none) (hit : s.heap.IsTupleIter it l i) (hl : s.heap.IsTuple l xs) (hx : xs[i]? = none)
    (k : ∀ h', Heap.ExtBut it s.heap h' → (∃ o, h'.get? it = some o) → Q none { s with heap := h' }) : wpAny (model prog w) A (pyNext (.ref it)) Q E s := by
  obtain ⟨ob, gb, cb, db⟩ := id hit
  obtain ⟨ot, gt, _, nt, dt⟩ := hl
  unfold pyNext
  refine wpAny_bind (wpAny_attempt (wpAny_callSpecial?_slot (name := Str.ofString "__next__") hit.typeIs F.slot_tuple_iterator_next (wpAny_call_entry F.slot_tuple_iterator_next hit.typeIs F.entry_tuple_iterator_next ?_ (F.args_tuple_iterator_next_1 _))))
  refine wpAny_bind (m := field (.ref it) 0) (wpAny_field gb db (x := .ref l) rfl ?_)
  have nn : ¬ ((Value.ref l == Value.none) = true) := Bool.false_ne_true
  show wpAny _ _ (if (Value.ref l == Value.none) = true then _ else _) _ _ s
  rw [if_neg nn]
  refine wpAny_bind (m := field (.ref it) 1) (wpAny_field gb db (x := .int i 0) rfl (wpAny_bind (m := seqItems? (.ref l)) (wpAny_seqItems gt dt ?_)))
  simp only [Int.toNat_natCast, hx]
  refine wpAny_bind (wpAny_rule (wpAny_bind (wpAny_setField gb db (by simp) (wpAny_bind (m := newExc (.type "StopIteration") []) ?_))))
  simp only [newExc, newTuple]
  refine wpAny_bind (wpAny_newObj_type (wpAny_bind (m := firstArgMember _ _) (wpAny_of_eq (a := Value.none) (by first | rfl | (simp only [firstArgMember]; rfl)) (wpAny_newObj_type ?_ (by size_fits)))) (by size_fits))
  simp only [raiseNew]
  refine wpAny_bind (wpAny_handled ?_)
  first | rw [show A.in1.handled = none from hh] | rw [hh]
  refine wpAny_bind (wpAny_pure (wpAny_throw ?_))
  refine wpAny_bind (wpAny_isInstance (T := "StopIteration") (b := true) ⟨_, Heap.get?_push_size _ rfl, rfl⟩ isSubtype_stop (wpAny_pure (k _ (((Heap.SameBut.update ..).extBut.push _).push _) ?_)))
  exact ⟨_, Heap.get?_push_of_some _ (Heap.get?_push_of_some _ (Heap.get?_update_self _ gb (Obj.isFreed_of_fields (Obj.data_mapFields db _))))⟩
end
/-- iter(t), t a tuple -/
def rIterT (K : PySem.W.Frag) : List V → Hp → VK → Prop := fun xs H Q => ∃ (l : Addr) (zs : List V), xs = [.ref l] ∧ SqT K H l zs ∧ ∀ it, H it = none → Q (.ref it) (upd H it (TIt l it 0))
theorem c_iter {X : Cx} (K : PySem.W.Frag) (hK : X.K = K := by rfl) : CallR X (.builtin "iter") (rIterT K) := by
  subst hK
  intro pins s σ H xs us Q I r h
  obtain ⟨l, zs, rfl, hq, q⟩ := h
  obtain ⟨u, rfl, ru⟩ := vals1 r
  cases ru
  obtain ⟨its, rv, pl, hz⟩ := I.tuple hq
  refine iter_tup pl fun h' e k => ?_
  exact ⟨.ref s.heap.objs.size, _, I.laid (t' := s.toks) k (Nat.le_refl _) (tit_ok e), rfl, q _ (I.hok.fresh (Nat.le_refl _))⟩
section
variable {X : Cx} {pins : List (Addr × Obj)} {σ : L2.St} {A1 : Around} {it u q : Addr} {zs : List V} {Rs : Result → Shared → Prop}
theorem tit_get {H : Hp} {s : Shared} {i : Nat} (I : L2.Inv X pins σ H s) (e : H it = some (TIt u it i)) : s.heap.IsTupleIter it u i := (I.hok it _ e).1
theorem tit_loop (hc : A1.in1.handled = none) (hsz : zs.length < sizeLine) {H0 : Hp}
    (hdone : ∀ H s, L2.Inv X pins σ H s → (∀ b o, b ≠ q → b ≠ it → H0 b = some o → H b = some o) → H q = some (.lst zs) → Rs (.ok (.ret .none)) s) :
    ∀ (m i : Nat) (H : Hp) (s : Shared), m + i = zs.length → L2.Inv X pins σ H s → H it = some (TIt u it i) → SqT X.K H u zs → H q = some (.lst (zs.take i)) → (∀ b o, b ≠ q → b ≠ it → H0 b = some o → H b = some o) →
      codeAny (model X.prog X.w) A1 (.builtin "list.extend.loop" ⟨[.ref q, .ref it, .none], []⟩) Rs s := by
  intro m
  induction m with
  | zero =>
    intro i H s hm I hi hu hq e
    refine codeAny_builtin PySem.F.entry_extend_loop ?_
    rw [Around.under_plainId PySem.F.plain_extend_loop _]
    obtain ⟨its, rv, p, _⟩ := I.tuple hu
    have l1 := rv.length
    refine wpAny_bind (m := pyNext (.ref it)) (tnext_end hc (tit_get I hi) p (by simp; omega) fun h' k ex => ?_)
    have mu : Mut (H it) := by rw [hi]; exact True.intro
    have I2 := I.write (x := it) (e := it) (o := Junk it) (t' := s.toks) mu (.inl rfl) (fun b o nb z => k b o nb z) ex (junk_ok ex)
    have nq : q ≠ it := ne_of hq hi (fun z => nomatch z)
    refine wpAny_pure (hdone _ _ I2 (fun b o n1 n2 z => by rw [upd_ne n2]; exact e b o n1 n2 z) ?_)
    rw [upd_ne nq, hq, List.take_of_length_le (by omega)]
  | succ m ih =>
    intro i H s hm I hi hu hq e
    refine codeAny_builtin PySem.F.entry_extend_loop ?_
    rw [Around.under_plainId PySem.F.plain_extend_loop _]
    obtain ⟨its, rv, p, _⟩ := I.tuple hu
    have hx : zs[i]? = some (zs[i]'(by omega)) := List.getElem?_eq_getElem (by omega)
    obtain ⟨w1, hw, rw1⟩ := rv.get hx
    have mu : Mut (H it) := by rw [hi]; exact True.intro
    have nq : q ≠ it := ne_of hq hi (fun z => nomatch z)
    refine wpAny_bind (m := pyNext (.ref it)) (wpAny_pyNext_tuple_item (tit_get I hi) p (by simpa using hw) fun h' e' sb => ?_)
    have ex : ∃ o, h'.get? it = some o := let ⟨o, ho, _⟩ := e'; ⟨o, ho⟩
    have I1 := I.write (x := it) (e := it) (o := TIt u it (i + 1)) (t' := s.toks) mu (.inl rfl) (fun b o nb z => (sb.2 b nb).trans z) ex (tit_ok e')
    have hq1 : upd H it (TIt u it (i + 1)) q = some (.lst (zs.take i)) := by rw [upd_ne nq]; exact hq
    obtain ⟨z', its', k', r2, hl2, e2⟩ := I1.lstM hq1
    have ll := r2.length
    rw [List.length_take] at ll
    refine wpAny_bind (m := updateSeq q (·.push w1)) (wpAny_updateSeq e2 rfl (wpAny_pure ⟨plainId_quiet PySem.F.plain_extend_loop _, ?_⟩) (by rw [List.size_toArray]; omega) (by show (its'.toArray.push _).size ≤ sizeLine + 1; rw [Array.size_push, List.size_toArray]; omega))
    have I2 := I1.lset (f := (·.push w1)) (its' := its' ++ [w1]) (ys := zs.take (i + 1)) (t' := s.toks) hq1 e2 (by simp) (by rw [List.take_add_one, hx]; exact r2.append (.cons rw1 .nil)) (by rw [List.length_take]; omega)
    refine ih (i + 1) _ _ (by omega) I2 (by rw [upd_ne (Ne.symm nq), upd_same]) ?_ upd_same fun b o n1 n2 z => by rw [upd_ne n1, upd_ne n2]; exact e b o n1 n2 z
    have n1 : ∀ (o : HO) (a : Addr), (∀ ys, o = .tup ys ∨ (∃ v, o = .frz v (.tup ys)) → H a = some o → (upd (upd H it (TIt u it (i + 1))) q (.lst (zs.take (i + 1)))) a = some o) := fun o a ys ho ha => by
      rcases ho with rfl | ⟨v, rfl⟩
      · rw [upd_ne (ne_of ha hq fun z => nomatch z), upd_ne (ne_of ha hi fun z => nomatch z)]; exact ha
      · rw [upd_ne (ne_of ha hq fun z => nomatch z), upd_ne (ne_of ha hi fun z => nomatch z)]; exact ha
    rcases hu with h | h
    · rcases h with h | ⟨o, h⟩
      · exact .inl (.inl (n1 _ _ zs (.inl rfl) h))
      · exact .inl (.inr ⟨o, n1 _ _ zs (.inr ⟨o, rfl⟩) h⟩)
    · exact .inr h
end
/-! ### list(o) -/
section
variable {X : Cx} {k : Nat} {f : Addr} {fd : FuncData} {ps : List Str} {sp : Sp}
/-- a callee that lets nothing out -/
theorem run_quiet {A : Around} {pins : List (Addr × Obj)} {σ : L2.St} {H : Hp} {s : Shared} {Q : VK} {us : List Value} {vs : List V} {xe : Value → Shared → Prop} (F : FnOk X.prog X.w X.K X.mg X.base (L2N.CX X.prog X.w) k f fd ps sp) (hr : Room k A) (fr : A.frames = X.A.frames) (hb : L2.Binds X.K fd ps [])
    (I : L2.Inv X pins σ H s) (r : Vals vs us) (h : sp vs H Q E0) : wpAny (model X.prog X.w) A (call (.ref f) us) (EP X pins σ Q) xe s := by
  have e0 : Env0 X.prog X.w X.K X.mg X.base A X.stack s H := by
    have e := I.env0
    exact ⟨by rw [fr]; exact e.frames, e.mod, e.bs, e.bsz, e.funs, e.frf, e.hok, e.bare⟩
  have hl : (us ++ []).length = ps.length := by rw [List.append_nil, ← r.length]; exact F.len _ _ _ _ h
  refine wpAny_call (codeAny_mono (F.run A X.stack s H ⟨us, []⟩ us vs Q E0 hr e0 (by have z := hb s us I.kIn hl; rw [List.append_nil] at z; exact z) r h) fun r s' hq => ?_)
  cases r with
  | error e =>
    obtain ⟨_, _, _, _, _, _, _, _, _, _, _, _, z⟩ := hq
    exact z.elim
  | ok fl =>
    cases fl with
    | ret u => exact I.after hq
    | next => exact False.elim hq
    | brk => exact False.elim hq
    | cont => exact False.elim hq
end
/-- what is wanted of __len__ -/
def LenP (R : Hp → Prop) : VK := fun v H' => ∃ n : Int, v = .int n ∧ 0 ≤ n ∧ n < 2 ^ 63 ∧ ∃ m : Int, V.int n = .int m ∧ m ≤ 1000 ∧ R H'
def rLsOwn (K : PySem.W.Frag) (C : Addr) (spI spL : Sp) : List V → Hp → VK → Prop := fun xs H Q => ∃ a dx fs, xs = [.ref a] ∧ H a = some (.ins C dx fs) ∧ ∀ q, H q = none → spI [.ref a] (upd H q (.lst [])) (fun v H2 => ∃ it u zs dy gs, v = .ref it ∧ H2 it = some (TIt u it 0) ∧ H2 a = some (.ins C dy gs) ∧
  spL [.ref a] H2 (LenP fun H3 => H3 it = some (TIt u it 0) ∧ SqT K H3 u zs ∧ zs.length ≤ 1000 ∧ H3 q = some (.lst []) ∧ ∀ H4, (∀ b o, b ≠ q → b ≠ it → H3 b = some o → H4 b = some o) → H4 q = some (.lst zs) → Q (.ref q) H4) E0) E0
section
variable {X : Cx} {C : Addr} {k1 k2 : Nat} {ps1 ps2 : List Str} {spI spL : Sp}
theorem own_len_at {A : Around} {pins : List (Addr × Obj)} {σ : L2.St} {H : Hp} {s : Shared} {Q : VK} {a dx : Addr} {fs : List (Str × V)} {xe : Value → Shared → Prop} (S : Sm X.prog X.w X.K X.mg X.base C "__len__" k2 ps2 spL) (hr : Room (k2 + 1) A) (fr : A.frames = X.A.frames) (I : L2.Inv X pins σ H s) (ha : H a = some (.ins C dx fs))
    (q : spL [.ref a] H (fun v H' => ∃ n : Int, v = .int n ∧ 0 ≤ n ∧ n < 2 ^ 63 ∧ Q (.int n) H') E0) : wpAny (model X.prog X.w) A (call (.builtin "len") [.ref a]) (EP X pins σ Q) xe s := by
  obtain ⟨f, fd, F, hs, hf, hb⟩ := S.ex
  obtain ⟨_, _, J⟩ := inst_of I ha
  obtain ⟨m, hF⟩ := I.fr
  refine PySem.W.len_K hF I.ok.mod.kin J hs hf ?_
  refine thn (run_quiet (vs := [.ref a]) F hr.in1 fr hb I (.cons rfl .nil) q) fun r s' z => ?_
  obtain ⟨v, H', I', rv, n, rfl, h0, h1, q'⟩ := z
  obtain ⟨t, rfl⟩ := (show ∃ t, r = Value.int n t from rv)
  exact ⟨⟨h0, h1⟩, .int n, H', I'.tok _, ⟨_, rfl⟩, q'⟩
theorem own_hintL {A : Around} {pins : List (Addr × Obj)} {σ : L2.St} {H : Hp} {s : Shared} {R : Hp → Prop} {a dx : Addr} {fs : List (Str × V)} {QB : Bool → Shared → Prop} {xe : Value → Shared → Prop} (S : Sm X.prog X.w X.K X.mg X.base C "__len__" k2 ps2 spL) (hr : Room (k2 + 1) A) (fr : A.frames = X.A.frames) (I : L2.Inv X pins σ H s) (ha : H a = some (.ins C dx fs))
    (q : spL [.ref a] H (LenP R) E0) (k : ∀ b H' s', L2.Inv X pins σ H' s' → R H' → QB b s') : wpAny (model X.prog X.w) A (Builtin.List.listLengthHint (.ref a)) QB xe s := by
  obtain ⟨f, fd, F, hs, hf, hb⟩ := id S.ex
  obtain ⟨_, _, J⟩ := inst_of I ha
  unfold Builtin.List.listLengthHint
  refine wpAny_bind (wpAny_bind (J.type.here ((PySem.W.looks_findIn I.kIn hs).here ?_)))
  refine PySem.W.KFB.if_not rfl ?_
  show wpAny _ _ (rule "list.length-hint.len" >>= _) _ _ _
  refine wpAny_bind (wpAny_rule ?_)
  refine wpAny_bind (wpAny_attempt (thn (own_len_at (Q := fun v H' => ∃ n : Int, v = .int n ∧ n ≤ 1000 ∧ R H') S hr fr I ha q) fun v s' z => ?_))
  · obtain ⟨x, H', I', rx, n, rfl, hn, hR⟩ := z
    obtain ⟨t, rfl⟩ := (show ∃ t, v = Value.int n t from rx)
    dsimp only
    refine wpAny_bind (m := asInt? (.int n t)) (wpAny_pure ?_)
    dsimp only
    have h0 : Builtin.List.listTooLong n.toNat = false := by
      unfold Builtin.List.listTooLong
      simp only [decide_eq_false_iff_not, sizeLine_eq]
      omega
    rw [if_neg (by rw [h0]; exact Bool.false_ne_true)]
    exact wpAny_pure (k _ H' _ I' hR)
theorem c_lsOwn (K : PySem.W.Frag) (SI : Sm X.prog X.w X.K X.mg X.base C "__iter__" k1 ps1 spI) (SL : Sm X.prog X.w X.K X.mg X.base C "__len__" k2 ps2 spL) (hr1 : Room (k1 + 2) X.A) (hr2 : Room (k2 + 3) X.A) (hc : X.calm = true) (hK : X.K = K := by rfl) : CallR X (.type "list") (rLsOwn K C spI spL) := by
  subst hK
  intro pins s σ H xs us Q I rv h
  obtain ⟨a, dx, fs, rfl, ha, hq⟩ := h
  obtain ⟨u, rfl, ru⟩ := rv.one
  cases ru
  obtain ⟨fi, fdi, FI, hsi, hfi, hbi⟩ := SI.ex
  refine callType_codes (Q₁ := fun obj s₁ => obj = .ref s.heap.objs.size ∧ s₁ = { s with heap := s.heap.push { cls := .type "list", data := .seq #[] } }) PySem.F.called_list (PySem.F.typeCall_list_1 _) PySem.F.entry_list_init (code_list_new _ ⟨rfl, rfl⟩) fun obj s₁ h₁ => ?_
  obtain ⟨rfl, rfl⟩ := h₁
  have hS : (s.heap.push { cls := .type "list", data := .seq #[] }).get? s.heap.objs.size = some { cls := .type "list", data := .seq #[] } := Heap.get?_push_size _ rfl
  refine ⟨⟨_, hS, rfl⟩, PySem.F.args_list_init_2 _ _, ?_⟩
  have fr : H s.heap.objs.size = none := I.hok.fresh (Nat.le_refl _)
  have hI := hq _ fr
  generalize hqq : s.heap.objs.size = q at *
  have I1 : L2.Inv X pins σ (upd H q (.lst [])) { s with heap := s.heap.push { cls := .type "list", data := .seq #[] } } := by
    subst hqq
    exact I.lnew (its := []) (t' := s.toks) .nil (Nat.zero_le _)
  refine wpAny_bind (m := Builtin.List.listItems (.ref q)) ?_
  unfold Builtin.List.listItems
  refine wpAny_bind (wpAny_seqItems hS rfl (wpAny_pure ?_))
  refine wpAny_bind (m := updateSeq q (fun _ => #[])) (wpAny_updateSeq hS rfl ?_)
  have I2 := I1.lset (f := fun _ => #[]) (its := []) (its' := []) (ys := []) (t' := s.toks) upd_same hS rfl .nil (Nat.zero_le _)
  rw [upd_upd] at I2
  refine wpAny_bind (m := letGo (#[] : Array Value).toList.reverse) (wpAny_letGo ?_)
  have ha2 : upd H q (.lst []) a = some (.ins C dx fs) := by rw [upd_ne (ne_of_none ha fr)]; exact ha
  have hne : q ≠ a := Ne.symm (ne_of_none ha fr)
  obtain ⟨_, _, J⟩ := inst_of I2 ha2
  obtain ⟨m0, hF⟩ := I2.fr
  unfold Builtin.List.listExtendWith
  refine wpAny_bind (J.type.here ?_)
  have h1 : Builtin.List.listSameRef (.ref q) (.ref a) = false := by simp [Builtin.List.listSameRef, hne]
  have h2 : (Value.ref C == Value.type "list") = false := rfl
  have h3 : (Value.ref C == Value.type "tuple") = false := rfl
  simp only [h1, h2, h3, Bool.or_false, Bool.false_eq_true, if_false]
  refine wpAny_bind (PySem.W.owit_iter hF I.ok.mod.kin J hsi hfi ?_)
  refine thn (run_quiet (vs := [.ref a]) FI hr1.in1.in1 rfl hbi I2 (.cons rfl .nil) hI) fun v s' z => ?_
  obtain ⟨x, H2, I3, rx, it, u, zs, dy, gs, rfl, hit, ha3, hL⟩ := z
  cases rx
  have hT := (tit_get I3 hit).typeIs
  unfold PySem.W.OwitIt
  refine wpAny_specialOf (name := Str.ofString "__next__") hT F.slot_tuple_iterator_next.lookup ?_
  dsimp only
  refine wpAny_bind (wpAny_holding (own_hintL SL hr2.in1.in1 rfl I3 ha3 hL fun b H3 s3 I4 hR => ?_))
  obtain ⟨hit3, hu3, hz3, hq3, kk⟩ := hR
  have fin : ∀ (s4 : Shared), L2.Inv X pins σ H3 s4 → codeAny (model X.prog X.w) X.A.in1 (.builtin "list.extend.loop" ⟨[.ref q, .ref it, .none], []⟩) (wants (fun r s₂ => r = .none ∧ EP X pins σ Q (.ref q) s₂) X.xe) s4 := fun s4 I5 =>
    tit_loop (A1 := X.A.in1) (Rs := wants (fun r s₂ => r = .none ∧ EP X pins σ Q (.ref q) s₂) X.xe) (I5.ok.hd hc) (by have := sizeLine_eq; omega) (H0 := H3) (fun H4 s5 I6 e6 q6 => ⟨rfl, .ref q, H4, I6, rfl, kk H4 e6 q6⟩) zs.length 0 H3 s4 (Nat.add_zero _) I5 hit3 hu3 hq3 fun b o _ _ z => z
  refine wpAny_ite_split (fun _ => ?_) (fun _ => wpAny_pure ⟨plainId_quiet PySem.F.plain_extend_loop _, fin _ I4⟩)
  obtain ⟨w4, its4, k4, r4, l4, e4⟩ := I4.lstM hq3
  cases r4
  refine wpAny_bind (wpAny_rule (wpAny_bind ?_))
  refine wpAny_bind (m := updateSeq q (·.push .none)) (wpAny_updateSeq e4 rfl ?_)
  have I5 := I4.lset (f := (·.push Value.none)) (its' := [Value.none]) (ys := [.non]) (t' := s3.toks) hq3 e4 (by simp) (.cons rfl .nil) (by rw [List.length_singleton, sizeLine_eq]; decide)
  obtain ⟨w5, its5, k5, r5, l5, e5⟩ := I5.lstM upd_same
  obtain ⟨u5, rfl, ru5⟩ := r5.one
  refine wpAny_updateSeq e5 rfl (wpAny_pure ⟨plainId_quiet PySem.F.plain_extend_loop _, fin _ ?_⟩) (by show 1 ≤ sizeLine; rw [sizeLine_eq]; decide) (Nat.zero_le _)
  have I6 := I5.lset (f := (·.pop)) (its := [u5]) (its' := []) (ys := []) (t' := s3.toks) upd_same e5 (by rfl) .nil (Nat.zero_le _)
  rw [upd_upd] at I6
  have hH : upd H3 q (.lst []) = H3 := by
    funext b
    by_cases hb : b = q
    · rw [hb, upd_same, hq3]
    · rw [upd_ne hb]
  rw [hH] at I6
  exact I6
end
section
variable {K : PySem.W.Frag} {H : Hp} {Q : VK} {C a u dx : Addr} {fs : List (Str × V)} {zs : List V} {spI spL : Sp}
theorem v_lsOwn (ha : H a = some (.ins C dx fs)) (hu : H u = some (.tup zs)) (hz : zs.length ≤ 1000)
    (hI : ∀ H1 Q', Ext H H1 → (∀ it H2, H1 it = none → Ext H1 H2 → H2 it = some (TIt u it 0) → Q' (.ref it) H2) → spI [.ref a] H1 Q' E0)
    (hL : ∀ H1 Q', Ext H H1 → Q' (.int zs.length) H1 → spL [.ref a] H1 Q' E0) (k : ∀ q H', H q = none → Ext H H' → H' q = some (.lst zs) → Q (.ref q) H') : rLsOwn K C spI spL [.ref a] H Q := by
  refine ⟨a, dx, fs, rfl, ha, fun q nq => hI _ _ (Ext.new nq) fun it H2 nit e2 hit => ?_⟩
  have e02 : Ext H H2 := (Ext.new nq).trans e2
  have hq2 := e2.look (upd_same (H := H) (a := q) (o := .lst []))
  have nit0 : H it = none := (Ext.new nq).free nit
  refine ⟨it, u, zs, dx, fs, rfl, hit, e02.look ha, hL H2 _ e02 ⟨zs.length, rfl, by omega, by omega, zs.length, rfl, by omega, hit, .inl (.inl (e02.look hu)), hz, hq2, fun H4 e4 q4 => ?_⟩⟩
  exact k q H4 nq (fun b o z => e4 b o (ne_of_none z nq) (ne_of_none z nit0) (e02 b o z)) q4
theorem v_iterT (hu : H u = some (.tup zs)) (k : ∀ it H', H it = none → Ext H H' → H' it = some (TIt u it 0) → Q (.ref it) H') : rIterT K [.ref u] H Q := ⟨u, zs, rfl, .inl (.inl hu), fun it nit => k it _ nit (Ext.new nit) upd_same⟩
end
end GG

/-! HI: iter(list); list(o), o an own instance whose __iter__ gives a list's iterator (with __len__), or a tuple's iterator (without). -/
namespace GG
open PySem PySem.Spec L2 PyProof.Rows
/-- the list at l, walked to place i by the iterator at it -/
def LIt (l it : Addr) (i : Nat) : HO := .ext fun h => h.IsListIter it l i
theorem lsi_ok {P : Program} {w : World} {H : Hp} {h : Heap} {l it : Addr} {i : Nat} (e : h.IsListIter it l i) : ObjOk P w H h it (LIt l it i) := ⟨e, (let ⟨o, ho, _⟩ := e; ⟨o, ho⟩), fun h1 h2 q k => q.at k⟩
section
variable {prog : Program} {w : World} {A : Around} {E : Value → Shared → Prop} {s : Shared} {it l : Addr} {i : Nat} {xs : Array Value}
theorem iter_lst {Q : Value → Shared → Prop} (hl : s.heap.IsList l xs) (h : ∀ h', h'.IsListIter s.heap.objs.size l 0 → (∀ b o, s.heap.get? b = some o → h'.get? b = some o) → Q (.ref s.heap.objs.size) { s with heap := h' }) : wpAny (model prog w) A (call (.builtin "iter") [.ref l]) Q E s := by
  refine Calls.call_function_entry (by decide +kernel) (by decide +kernel) PySem.W.kdk_entry_iter (PySem.W.kdk_args_iter _) ?_
  unfold Builtin.«iter»
  refine wpAny_bind (m := someArgs "iter" 1 2 _) (wpAny_of_eq (a := [Value.ref l]) (by first | rfl | kernel_rfl!) (wpAny_bind (m := pyIter (.ref l)) (wpAny_pyIter_list hl (wpAny_pure ⟨_, rfl, h _ ⟨_, Heap.get?_push_size _ rfl, rfl, rfl⟩ fun b o e => Heap.get?_push_of_some _ e⟩))))
theorem lnext_end {Q : Option Value → Shared → Prop} (hh : A.handled = none) (hit : s.heap.IsListIter it l i) (hl : s.heap.IsList l xs) (hx : xs[i]? = none)
    (k : ∀ h', Heap.ExtBut it s.heap h' → (∃ o, h'.get? it = some o) → Q none { s with heap := h' }) : wpAny (model prog w) A (pyNext (.ref it)) Q E s := by
  obtain ⟨ob, gb, cb, db⟩ := id hit
  obtain ⟨ot, gt, _, nt, dt⟩ := hl
  unfold pyNext
  refine wpAny_bind (wpAny_attempt (wpAny_callSpecial?_slot (name := Str.ofString "__next__") hit.typeIs slot_listiter_next (wpAny_call_entry slot_listiter_next hit.typeIs entry_listiter_next ?_ (args_listiter_next _))))
  refine wpAny_bind (m := field (.ref it) 0) (wpAny_field gb db (x := .ref l) rfl ?_)
  have nn : ¬ ((Value.ref l == Value.none) = true) := Bool.false_ne_true
  show wpAny _ _ (if (Value.ref l == Value.none) = true then _ else _) _ _ s
  rw [if_neg nn]
  refine wpAny_bind (m := field (.ref it) 1) (wpAny_field gb db (x := .int i 0) rfl (wpAny_bind (m := seqItems? (.ref l)) (wpAny_seqItems gt dt ?_)))
  simp only [Int.toNat_natCast, hx]
  refine wpAny_bind (wpAny_rule (wpAny_bind (wpAny_setField gb db (by simp) (wpAny_bind (m := newExc (.type "StopIteration") []) ?_))))
  simp only [newExc, newTuple]
  refine wpAny_bind (wpAny_newObj_type (wpAny_bind (m := firstArgMember _ _) (wpAny_of_eq (a := Value.none) (by first | rfl | (simp only [firstArgMember]; rfl)) (wpAny_newObj_type ?_ (by size_fits)))) (by size_fits))
  simp only [raiseNew]
  refine wpAny_bind (wpAny_handled ?_)
  first | rw [show A.in1.handled = none from hh] | rw [hh]
  refine wpAny_bind (wpAny_pure (wpAny_throw ?_))
  refine wpAny_bind (wpAny_isInstance (T := "StopIteration") (b := true) ⟨_, Heap.get?_push_size _ rfl, rfl⟩ isSubtype_stop (wpAny_pure (k _ (((Heap.SameBut.update ..).extBut.push _).push _) ?_)))
  exact ⟨_, Heap.get?_push_of_some _ (Heap.get?_push_of_some _ (Heap.get?_update_self _ gb (Obj.isFreed_of_fields (Obj.data_mapFields db _))))⟩
end
/-- iter(xs), xs a list -/
def rIterL (K : PySem.W.Frag) : List V → Hp → VK → Prop := fun xs H Q => ∃ (l : Addr) (zs : List V), xs = [.ref l] ∧ H l = some (.lst zs) ∧ ∀ it, H it = none → Q (.ref it) (upd H it (LIt l it 0))
theorem lst_is {X : Cx} {pins : List (Addr × Obj)} {σ : L2.St} {H : Hp} {s : Shared} {l : Addr} {zs : List V} (I : L2.Inv X pins σ H s) (hl : H l = some (.lst zs)) : zs.length ≤ sizeLine ∧ ∃ its : List Value, Vals zs its ∧ s.heap.IsList l its.toArray := by
  obtain ⟨hz, its, n, r, hlen, e⟩ := I.lstM hl
  exact ⟨hz, its, r, _, e, rfl, n, rfl⟩
theorem c_iterL {X : Cx} (K : PySem.W.Frag) (hK : X.K = K := by rfl) : CallR X (.builtin "iter") (rIterL K) := by
  subst hK
  intro pins s σ H xs us Q I r h
  obtain ⟨l, zs, rfl, hq, q⟩ := h
  obtain ⟨u, rfl, ru⟩ := vals1 r
  cases ru
  obtain ⟨hz, its, rv, pl⟩ := lst_is I hq
  refine iter_lst pl fun h' e k => ?_
  exact ⟨.ref s.heap.objs.size, _, I.laid (t' := s.toks) k (Nat.le_refl _) (lsi_ok e), rfl, q _ (I.hok.fresh (Nat.le_refl _))⟩
section
variable {X : Cx} {pins : List (Addr × Obj)} {σ : L2.St} {A1 : Around} {it u q : Addr} {zs : List V} {Rs : Result → Shared → Prop}
theorem lsi_get {H : Hp} {s : Shared} {i : Nat} (I : L2.Inv X pins σ H s) (e : H it = some (LIt u it i)) : s.heap.IsListIter it u i := (I.hok it _ e).1
theorem lsi_loop (hc : A1.in1.handled = none) (hsz : zs.length < sizeLine) {H0 : Hp}
    (hdone : ∀ H s, L2.Inv X pins σ H s → (∀ b o, b ≠ q → b ≠ it → H0 b = some o → H b = some o) → H q = some (.lst zs) → Rs (.ok (.ret .none)) s) :
    ∀ (m i : Nat) (H : Hp) (s : Shared), m + i = zs.length → L2.Inv X pins σ H s → H it = some (LIt u it i) → u ≠ q → H u = some (.lst zs) → H q = some (.lst (zs.take i)) → (∀ b o, b ≠ q → b ≠ it → H0 b = some o → H b = some o) →
      codeAny (model X.prog X.w) A1 (.builtin "list.extend.loop" ⟨[.ref q, .ref it, .none], []⟩) Rs s := by
  intro m
  induction m with
  | zero =>
    intro i H s hm I hi huq hu hq e
    refine codeAny_builtin PySem.F.entry_extend_loop ?_
    rw [Around.under_plainId PySem.F.plain_extend_loop _]
    obtain ⟨_, its, rv, p⟩ := lst_is I hu
    have l1 := rv.length
    refine wpAny_bind (m := pyNext (.ref it)) (lnext_end hc (lsi_get I hi) p (by simp; omega) fun h' k ex => ?_)
    have mu : Mut (H it) := by rw [hi]; exact True.intro
    have I2 := I.write (x := it) (e := it) (o := Junk it) (t' := s.toks) mu (.inl rfl) (fun b o nb z => k b o nb z) ex (junk_ok ex)
    have nq : q ≠ it := ne_of hq hi (fun z => nomatch z)
    refine wpAny_pure (hdone _ _ I2 (fun b o n1 n2 z => by rw [upd_ne n2]; exact e b o n1 n2 z) ?_)
    rw [upd_ne nq, hq, List.take_of_length_le (by omega)]
  | succ m ih =>
    intro i H s hm I hi huq hu hq e
    refine codeAny_builtin PySem.F.entry_extend_loop ?_
    rw [Around.under_plainId PySem.F.plain_extend_loop _]
    obtain ⟨_, its, rv, p⟩ := lst_is I hu
    have hx : zs[i]? = some (zs[i]'(by omega)) := List.getElem?_eq_getElem (by omega)
    obtain ⟨w1, hw, rw1⟩ := rv.get hx
    have mu : Mut (H it) := by rw [hi]; exact True.intro
    have nq : q ≠ it := ne_of hq hi (fun z => nomatch z)
    have nu : u ≠ it := ne_of hu hi (fun z => nomatch z)
    refine wpAny_bind (m := pyNext (.ref it)) (wpAny_pyNext_list_item (lsi_get I hi) p (by simpa using hw) fun h' e' sb => ?_)
    have ex : ∃ o, h'.get? it = some o := let ⟨o, ho, _⟩ := e'; ⟨o, ho⟩
    have I1 := I.write (x := it) (e := it) (o := LIt u it (i + 1)) (t' := s.toks) mu (.inl rfl) (fun b o nb z => (sb.2 b nb).trans z) ex (lsi_ok e')
    have hq1 : upd H it (LIt u it (i + 1)) q = some (.lst (zs.take i)) := by rw [upd_ne nq]; exact hq
    obtain ⟨z', its', k', r2, hl2, e2⟩ := I1.lstM hq1
    have ll := r2.length
    rw [List.length_take] at ll
    refine wpAny_bind (m := updateSeq q (·.push w1)) (wpAny_updateSeq e2 rfl (wpAny_pure ⟨plainId_quiet PySem.F.plain_extend_loop _, ?_⟩) (by rw [List.size_toArray]; omega) (by show (its'.toArray.push _).size ≤ sizeLine + 1; rw [Array.size_push, List.size_toArray]; omega))
    have I2 := I1.lset (f := (·.push w1)) (its' := its' ++ [w1]) (ys := zs.take (i + 1)) (t' := s.toks) hq1 e2 (by simp) (by rw [List.take_add_one, hx]; exact r2.append (.cons rw1 .nil)) (by rw [List.length_take]; omega)
    exact ih (i + 1) _ _ (by omega) I2 (by rw [upd_ne (Ne.symm nq), upd_same]) huq (by rw [upd_ne huq, upd_ne nu]; exact hu) upd_same fun b o n1 n2 z => by rw [upd_ne n1, upd_ne n2]; exact e b o n1 n2 z
end
/-- what is wanted of __len__ -/
def LenPL (R : Hp → Prop) : VK := fun v H' => ∃ n : Int, v = .int n ∧ 0 ≤ n ∧ n < 2 ^ 63 ∧ ∃ m : Int, V.int n = .int m ∧ m ≤ 1000000 ∧ R H'
section
variable {X : Cx} {C : Addr} {k1 k2 : Nat} {ps1 ps2 : List Str} {spI spL : Sp}
theorem own_hintLL {A : Around} {pins : List (Addr × Obj)} {σ : L2.St} {H : Hp} {s : Shared} {R : Hp → Prop} {a dx : Addr} {fs : List (Str × V)} {QB : Bool → Shared → Prop} {xe : Value → Shared → Prop} (S : Sm X.prog X.w X.K X.mg X.base C "__len__" k2 ps2 spL) (hr : Room (k2 + 1) A) (fr : A.frames = X.A.frames) (I : L2.Inv X pins σ H s) (ha : H a = some (.ins C dx fs))
    (q : spL [.ref a] H (LenPL R) E0) (k : ∀ b H' s', L2.Inv X pins σ H' s' → R H' → QB b s') : wpAny (model X.prog X.w) A (Builtin.List.listLengthHint (.ref a)) QB xe s := by
  obtain ⟨f, fd, F, hs, hf, hb⟩ := id S.ex
  obtain ⟨_, _, J⟩ := inst_of I ha
  unfold Builtin.List.listLengthHint
  refine wpAny_bind (wpAny_bind (J.type.here ((PySem.W.looks_findIn I.kIn hs).here ?_)))
  refine PySem.W.KFB.if_not rfl ?_
  show wpAny _ _ (rule "list.length-hint.len" >>= _) _ _ _
  refine wpAny_bind (wpAny_rule ?_)
  refine wpAny_bind (wpAny_attempt (thn (own_len_at (Q := fun v H' => ∃ n : Int, v = .int n ∧ n ≤ 1000000 ∧ R H') S hr fr I ha q) fun v s' z => ?_))
  · obtain ⟨x, H', I', rx, n, rfl, hn, hR⟩ := z
    obtain ⟨t, rfl⟩ := (show ∃ t, v = Value.int n t from rx)
    dsimp only
    refine wpAny_bind (m := asInt? (.int n t)) (wpAny_pure ?_)
    dsimp only
    have h0 : Builtin.List.listTooLong n.toNat = false := by
      unfold Builtin.List.listTooLong
      simp only [decide_eq_false_iff_not, sizeLine_eq]
      omega
    rw [if_neg (by rw [h0]; exact Bool.false_ne_true)]
    exact wpAny_pure (k _ H' _ I' hR)
end
def rLsOwnL (K : PySem.W.Frag) (C : Addr) (spI spL : Sp) : List V → Hp → VK → Prop := fun xs H Q => ∃ a dx fs, xs = [.ref a] ∧ H a = some (.ins C dx fs) ∧ ∀ q, H q = none → spI [.ref a] (upd H q (.lst [])) (fun v H2 => ∃ it u zs dy gs, v = .ref it ∧ H2 it = some (LIt u it 0) ∧ H2 a = some (.ins C dy gs) ∧
  spL [.ref a] H2 (LenPL fun H3 => H3 it = some (LIt u it 0) ∧ u ≠ q ∧ H3 u = some (.lst zs) ∧ zs.length ≤ 1000000 ∧ H3 q = some (.lst []) ∧ ∀ H4, (∀ b o, b ≠ q → b ≠ it → H3 b = some o → H4 b = some o) → H4 q = some (.lst zs) → Q (.ref q) H4) E0) E0
theorem own_hint0 {M : Model} {A : Around} {E : Value → Shared → Prop} {Q : Bool → Shared → Prop} {K : PySem.W.Frag} {s : Shared} {a C : Addr} {ox : Obj} {od : Option Obj} (nl : PySem.W.findIn K (.ref C) "__len__" = some none) (nh : PySem.W.findIn K (.ref C) "__length_hint__" = some none) (hK : K.In s.heap) (J : PySem.W.InstAt s.heap a ox C od) (h : Q true s) :
    wpAny M A (Builtin.List.listLengthHint (.ref a)) Q E s := by
  unfold Builtin.List.listLengthHint
  refine wpAny_bind (wpAny_bind (J.type.here ((PySem.W.looks_findIn hK nl).here ?_)))
  refine PySem.W.KFB.if_not rfl ?_
  refine PySem.W.KFB.if_not rfl ?_
  refine wpAny_bind (wpAny_bind (J.type.here ((PySem.W.looks_findIn hK nh).here ?_)))
  exact wpAny_pure h
def rLsOwn0 (K : PySem.W.Frag) (C : Addr) (spI : Sp) : List V → Hp → VK → Prop := fun xs H Q => ∃ a dx fs, xs = [.ref a] ∧ H a = some (.ins C dx fs) ∧ ∀ q, H q = none → spI [.ref a] (upd H q (.lst [])) (fun v H3 => ∃ it u zs dy gs, v = .ref it ∧ H3 it = some (TIt u it 0) ∧ H3 a = some (.ins C dy gs) ∧
  SqT K H3 u zs ∧ zs.length ≤ 1000 ∧ H3 q = some (.lst []) ∧ ∀ H4, (∀ b o, b ≠ q → b ≠ it → H3 b = some o → H4 b = some o) → H4 q = some (.lst zs) → Q (.ref q) H4) E0
section
variable {X : Cx} {C : Addr} {k1 k2 : Nat} {ps1 ps2 : List Str} {spI spL : Sp}
theorem c_lsOwnL (K : PySem.W.Frag) (SI : Sm X.prog X.w X.K X.mg X.base C "__iter__" k1 ps1 spI) (SL : Sm X.prog X.w X.K X.mg X.base C "__len__" k2 ps2 spL) (hr1 : Room (k1 + 2) X.A) (hr2 : Room (k2 + 3) X.A) (hc : X.calm = true) (hK : X.K = K := by rfl) : CallR X (.type "list") (rLsOwnL K C spI spL) := by
  subst hK
  intro pins s σ H xs us Q I rv h
  obtain ⟨a, dx, fs, rfl, ha, hq⟩ := h
  obtain ⟨u, rfl, ru⟩ := rv.one
  cases ru
  obtain ⟨fi, fdi, FI, hsi, hfi, hbi⟩ := SI.ex
  refine callType_codes (Q₁ := fun obj s₁ => obj = .ref s.heap.objs.size ∧ s₁ = { s with heap := s.heap.push { cls := .type "list", data := .seq #[] } }) PySem.F.called_list (PySem.F.typeCall_list_1 _) PySem.F.entry_list_init (code_list_new _ ⟨rfl, rfl⟩) fun obj s₁ h₁ => ?_
  obtain ⟨rfl, rfl⟩ := h₁
  have hS : (s.heap.push { cls := .type "list", data := .seq #[] }).get? s.heap.objs.size = some { cls := .type "list", data := .seq #[] } := Heap.get?_push_size _ rfl
  refine ⟨⟨_, hS, rfl⟩, PySem.F.args_list_init_2 _ _, ?_⟩
  have fr : H s.heap.objs.size = none := I.hok.fresh (Nat.le_refl _)
  have hI := hq _ fr
  generalize hqq : s.heap.objs.size = q at *
  have I1 : L2.Inv X pins σ (upd H q (.lst [])) { s with heap := s.heap.push { cls := .type "list", data := .seq #[] } } := by
    subst hqq
    exact I.lnew (its := []) (t' := s.toks) .nil (Nat.zero_le _)
  refine wpAny_bind (m := Builtin.List.listItems (.ref q)) ?_
  unfold Builtin.List.listItems
  refine wpAny_bind (wpAny_seqItems hS rfl (wpAny_pure ?_))
  refine wpAny_bind (m := updateSeq q (fun _ => #[])) (wpAny_updateSeq hS rfl ?_)
  have I2 := I1.lset (f := fun _ => #[]) (its := []) (its' := []) (ys := []) (t' := s.toks) upd_same hS rfl .nil (Nat.zero_le _)
  rw [upd_upd] at I2
  refine wpAny_bind (m := letGo (#[] : Array Value).toList.reverse) (wpAny_letGo ?_)
  have ha2 : upd H q (.lst []) a = some (.ins C dx fs) := by rw [upd_ne (ne_of_none ha fr)]; exact ha
  have hne : q ≠ a := Ne.symm (ne_of_none ha fr)
  obtain ⟨_, _, J⟩ := inst_of I2 ha2
  obtain ⟨m0, hF⟩ := I2.fr
  unfold Builtin.List.listExtendWith
  refine wpAny_bind (J.type.here ?_)
  have h1 : Builtin.List.listSameRef (.ref q) (.ref a) = false := by simp [Builtin.List.listSameRef, hne]
  have h2 : (Value.ref C == Value.type "list") = false := rfl
  have h3 : (Value.ref C == Value.type "tuple") = false := rfl
  simp only [h1, h2, h3, Bool.or_false, Bool.false_eq_true, if_false]
  refine wpAny_bind (PySem.W.owit_iter hF I.ok.mod.kin J hsi hfi ?_)
  refine thn (run_quiet (vs := [.ref a]) FI hr1.in1.in1 rfl hbi I2 (.cons rfl .nil) hI) fun v s' z => ?_
  obtain ⟨x, H2, I3, rx, it, u, zs, dy, gs, rfl, hit, ha3, hL⟩ := z
  cases rx
  have hT := (lsi_get I3 hit).typeIs
  unfold PySem.W.OwitIt
  refine wpAny_specialOf (name := Str.ofString "__next__") hT slot_listiter_next.lookup ?_
  dsimp only
  refine wpAny_bind (wpAny_holding (own_hintLL SL hr2.in1.in1 rfl I3 ha3 hL fun b H3 s3 I4 hR => ?_))
  obtain ⟨hit3, huq3, hu3, hz3, hq3, kk⟩ := hR
  have fin : ∀ (s4 : Shared), L2.Inv X pins σ H3 s4 → codeAny (model X.prog X.w) X.A.in1 (.builtin "list.extend.loop" ⟨[.ref q, .ref it, .none], []⟩) (wants (fun r s₂ => r = .none ∧ EP X pins σ Q (.ref q) s₂) X.xe) s4 := fun s4 I5 =>
    lsi_loop (A1 := X.A.in1) (Rs := wants (fun r s₂ => r = .none ∧ EP X pins σ Q (.ref q) s₂) X.xe) (I5.ok.hd hc) (by have := sizeLine_eq; omega) (H0 := H3) (fun H4 s5 I6 e6 q6 => ⟨rfl, .ref q, H4, I6, rfl, kk H4 e6 q6⟩) zs.length 0 H3 s4 (Nat.add_zero _) I5 hit3 huq3 hu3 hq3 fun b o _ _ z => z
  refine wpAny_ite_split (fun _ => ?_) (fun _ => wpAny_pure ⟨plainId_quiet PySem.F.plain_extend_loop _, fin _ I4⟩)
  obtain ⟨w4, its4, k4, r4, l4, e4⟩ := I4.lstM hq3
  cases r4
  refine wpAny_bind (wpAny_rule (wpAny_bind ?_))
  refine wpAny_bind (m := updateSeq q (·.push .none)) (wpAny_updateSeq e4 rfl ?_)
  have I5 := I4.lset (f := (·.push Value.none)) (its' := [Value.none]) (ys := [.non]) (t' := s3.toks) hq3 e4 (by simp) (.cons rfl .nil) (by rw [List.length_singleton, sizeLine_eq]; decide)
  obtain ⟨w5, its5, k5, r5, l5, e5⟩ := I5.lstM upd_same
  obtain ⟨u5, rfl, ru5⟩ := r5.one
  refine wpAny_updateSeq e5 rfl (wpAny_pure ⟨plainId_quiet PySem.F.plain_extend_loop _, fin _ ?_⟩) (by show 1 ≤ sizeLine; rw [sizeLine_eq]; decide) (Nat.zero_le _)
  have I6 := I5.lset (f := (·.pop)) (its := [u5]) (its' := []) (ys := []) (t' := s3.toks) upd_same e5 (by rfl) .nil (Nat.zero_le _)
  rw [upd_upd] at I6
  have hH : upd H3 q (.lst []) = H3 := by
    funext b
    by_cases hb : b = q
    · rw [hb, upd_same, hq3]
    · rw [upd_ne hb]
  rw [hH] at I6
  exact I6
theorem c_lsOwn0 (K : PySem.W.Frag) (nl : PySem.W.findIn X.K (.ref C) "__len__" = some none) (nh : PySem.W.findIn X.K (.ref C) "__length_hint__" = some none) (SI : Sm X.prog X.w X.K X.mg X.base C "__iter__" k1 ps1 spI) (hr1 : Room (k1 + 2) X.A) (hc : X.calm = true) (hK : X.K = K := by rfl) : CallR X (.type "list") (rLsOwn0 K C spI) := by
  subst hK
  intro pins s σ H xs us Q I rv h
  obtain ⟨a, dx, fs, rfl, ha, hq⟩ := h
  obtain ⟨u, rfl, ru⟩ := rv.one
  cases ru
  obtain ⟨fi, fdi, FI, hsi, hfi, hbi⟩ := SI.ex
  refine callType_codes (Q₁ := fun obj s₁ => obj = .ref s.heap.objs.size ∧ s₁ = { s with heap := s.heap.push { cls := .type "list", data := .seq #[] } }) PySem.F.called_list (PySem.F.typeCall_list_1 _) PySem.F.entry_list_init (code_list_new _ ⟨rfl, rfl⟩) fun obj s₁ h₁ => ?_
  obtain ⟨rfl, rfl⟩ := h₁
  have hS : (s.heap.push { cls := .type "list", data := .seq #[] }).get? s.heap.objs.size = some { cls := .type "list", data := .seq #[] } := Heap.get?_push_size _ rfl
  refine ⟨⟨_, hS, rfl⟩, PySem.F.args_list_init_2 _ _, ?_⟩
  have fr : H s.heap.objs.size = none := I.hok.fresh (Nat.le_refl _)
  have hI := hq _ fr
  generalize hqq : s.heap.objs.size = q at *
  have I1 : L2.Inv X pins σ (upd H q (.lst [])) { s with heap := s.heap.push { cls := .type "list", data := .seq #[] } } := by
    subst hqq
    exact I.lnew (its := []) (t' := s.toks) .nil (Nat.zero_le _)
  refine wpAny_bind (m := Builtin.List.listItems (.ref q)) ?_
  unfold Builtin.List.listItems
  refine wpAny_bind (wpAny_seqItems hS rfl (wpAny_pure ?_))
  refine wpAny_bind (m := updateSeq q (fun _ => #[])) (wpAny_updateSeq hS rfl ?_)
  have I2 := I1.lset (f := fun _ => #[]) (its := []) (its' := []) (ys := []) (t' := s.toks) upd_same hS rfl .nil (Nat.zero_le _)
  rw [upd_upd] at I2
  refine wpAny_bind (m := letGo (#[] : Array Value).toList.reverse) (wpAny_letGo ?_)
  have ha2 : upd H q (.lst []) a = some (.ins C dx fs) := by rw [upd_ne (ne_of_none ha fr)]; exact ha
  have hne : q ≠ a := Ne.symm (ne_of_none ha fr)
  obtain ⟨_, _, J⟩ := inst_of I2 ha2
  obtain ⟨m0, hF⟩ := I2.fr
  unfold Builtin.List.listExtendWith
  refine wpAny_bind (J.type.here ?_)
  have h1 : Builtin.List.listSameRef (.ref q) (.ref a) = false := by simp [Builtin.List.listSameRef, hne]
  have h2 : (Value.ref C == Value.type "list") = false := rfl
  have h3 : (Value.ref C == Value.type "tuple") = false := rfl
  simp only [h1, h2, h3, Bool.or_false, Bool.false_eq_true, if_false]
  refine wpAny_bind (PySem.W.owit_iter hF I.ok.mod.kin J hsi hfi ?_)
  refine thn (run_quiet (vs := [.ref a]) FI hr1.in1.in1 rfl hbi I2 (.cons rfl .nil) hI) fun v s' z => ?_
  obtain ⟨x, H3, I4, rx, it, u, zs, dy, gs, rfl, hit3, ha3, hu3, hz3, hq3, kk⟩ := z
  cases rx
  have hT := (tit_get I4 hit3).typeIs
  obtain ⟨_, _, J3⟩ := inst_of I4 ha3
  unfold PySem.W.OwitIt
  refine wpAny_specialOf (name := Str.ofString "__next__") hT F.slot_tuple_iterator_next.lookup ?_
  dsimp only
  refine wpAny_bind (wpAny_holding (own_hint0 nl nh I4.kIn J3 ?_))
  have fin : ∀ (s4 : Shared), L2.Inv X pins σ H3 s4 → codeAny (model X.prog X.w) X.A.in1 (.builtin "list.extend.loop" ⟨[.ref q, .ref it, .none], []⟩) (wants (fun r s₂ => r = .none ∧ EP X pins σ Q (.ref q) s₂) X.xe) s4 := fun s4 I5 =>
    tit_loop (A1 := X.A.in1) (Rs := wants (fun r s₂ => r = .none ∧ EP X pins σ Q (.ref q) s₂) X.xe) (I5.ok.hd hc) (by have := sizeLine_eq; omega) (H0 := H3) (fun H4 s5 I6 e6 q6 => ⟨rfl, .ref q, H4, I6, rfl, kk H4 e6 q6⟩) zs.length 0 H3 s4 (Nat.add_zero _) I5 hit3 hu3 hq3 fun b o _ _ z => z
  refine wpAny_ite_split (fun _ => ?_) (fun _ => wpAny_pure ⟨plainId_quiet PySem.F.plain_extend_loop _, fin _ I4⟩)
  obtain ⟨w4, its4, k4, r4, l4, e4⟩ := I4.lstM hq3
  cases r4
  refine wpAny_bind (wpAny_rule (wpAny_bind ?_))
  refine wpAny_bind (m := updateSeq q (·.push .none)) (wpAny_updateSeq e4 rfl ?_)
  have I5 := I4.lset (f := (·.push Value.none)) (its' := [Value.none]) (ys := [.non]) (t' := s'.toks) hq3 e4 (by simp) (.cons rfl .nil) (by rw [List.length_singleton, sizeLine_eq]; decide)
  obtain ⟨w5, its5, k5, r5, l5, e5⟩ := I5.lstM upd_same
  obtain ⟨u5, rfl, ru5⟩ := r5.one
  refine wpAny_updateSeq e5 rfl (wpAny_pure ⟨plainId_quiet PySem.F.plain_extend_loop _, fin _ ?_⟩) (by show 1 ≤ sizeLine; rw [sizeLine_eq]; decide) (Nat.zero_le _)
  have I6 := I5.lset (f := (·.pop)) (its := [u5]) (its' := []) (ys := []) (t' := s'.toks) upd_same e5 (by rfl) .nil (Nat.zero_le _)
  rw [upd_upd] at I6
  have hH : upd H3 q (.lst []) = H3 := by
    funext b
    by_cases hb : b = q
    · rw [hb, upd_same, hq3]
    · rw [upd_ne hb]
  rw [hH] at I6
  exact I6
end
section
variable {K : PySem.W.Frag} {H : Hp} {Q : VK} {C a u dx : Addr} {fs : List (Str × V)} {zs : List V} {spI spL : Sp}
theorem v_lsOwnL (ha : H a = some (.ins C dx fs)) (hu : H u = some (.lst zs)) (hz : zs.length ≤ 1000000)
    (hI : ∀ H1 Q', Ext H H1 → (∀ it H2, H1 it = none → Ext H1 H2 → H2 it = some (LIt u it 0) → Q' (.ref it) H2) → spI [.ref a] H1 Q' E0)
    (hL : ∀ H1 Q', Ext H H1 → Q' (.int zs.length) H1 → spL [.ref a] H1 Q' E0) (k : ∀ q H', H q = none → Ext H H' → H' q = some (.lst zs) → Q (.ref q) H') : rLsOwnL K C spI spL [.ref a] H Q := by
  refine ⟨a, dx, fs, rfl, ha, fun q nq => hI _ _ (Ext.new nq) fun it H2 nit e2 hit => ?_⟩
  have e02 : Ext H H2 := (Ext.new nq).trans e2
  have hq2 := e2.look (upd_same (H := H) (a := q) (o := .lst []))
  have nit0 : H it = none := (Ext.new nq).free nit
  refine ⟨it, u, zs, dx, fs, rfl, hit, e02.look ha, hL H2 _ e02 ⟨zs.length, rfl, by omega, by omega, zs.length, rfl, by omega, hit, ne_of_none hu nq, e02.look hu, hz, hq2, fun H4 e4 q4 => ?_⟩⟩
  exact k q H4 nq (fun b o z => e4 b o (ne_of_none z nq) (ne_of_none z nit0) (e02 b o z)) q4
theorem v_lsOwn0 (ha : H a = some (.ins C dx fs)) (hu : H u = some (.tup zs)) (hz : zs.length ≤ 1000)
    (hI : ∀ H1 Q', Ext H H1 → (∀ it H2, H1 it = none → Ext H1 H2 → H2 it = some (TIt u it 0) → Q' (.ref it) H2) → spI [.ref a] H1 Q' E0)
    (k : ∀ q H', H q = none → Ext H H' → H' q = some (.lst zs) → Q (.ref q) H') : rLsOwn0 K C spI [.ref a] H Q := by
  refine ⟨a, dx, fs, rfl, ha, fun q nq => hI _ _ (Ext.new nq) fun it H2 nit e2 hit => ?_⟩
  have e02 : Ext H H2 := (Ext.new nq).trans e2
  have hq2 := e2.look (upd_same (H := H) (a := q) (o := .lst []))
  have nit0 : H it = none := (Ext.new nq).free nit
  refine ⟨it, u, zs, dx, fs, rfl, hit, e02.look ha, .inl (.inl (e02.look hu)), hz, hq2, fun H4 e4 q4 => ?_⟩
  exact k q H4 nq (fun b o z => e4 b o (ne_of_none z nq) (ne_of_none z nit0) (e02 b o z)) q4
theorem v_iterL (hu : H u = some (.lst zs)) (k : ∀ it H', H it = none → Ext H H' → H' it = some (LIt u it 0) → Q (.ref it) H') : rIterL K [.ref u] H Q := ⟨u, zs, rfl, hu, fun it nit => k it _ nit (Ext.new nit) upd_same⟩
end
end GG

/-! GY: own __getitem__, conversions, slices, == of data, comprehensions by a walk, isinstance with a tuple of classes. -/
namespace GG
open PySem L2 PyProof.Rows
/-! ### x[i] by the text's own __getitem__ -/
def rGet (C : Addr) (sp : Sp) (E : L2.St → XK) : R2S := fun σ x y H Q => ∃ a dx fs, x = .ref a ∧ H a = some (.ins C dx fs) ∧ sp [.ref a, y] H Q (E σ)
def Gets (K : PySem.W.Frag) (C : Addr) : Prop := ∃ f, PySem.W.findIn K (.ref C) "__getitem__" = some (some (.ref f)) ∧ PySem.W.fnIn K f = true
section
variable {X : Cx} {k : Nat} {C : Addr} {ps : List Str} {sp : Sp} {E : L2.St → XK} {a b : Expr} {ta tb : TE} {pos : Pos}
theorem pe_ixOwn (S : Sm X.prog X.w X.K X.mg X.base C "__getitem__" k ps sp) (hg : Gets X.K C) (hr : Room (k + 1) X.A) (hx : Ps X E) (ha : PE X a ta) (hb : PE X b tb)
    (hsl : ∀ x i, subscripted b true (.ref x) i = runValue (.builtin "lifetime.subscript" ⟨[.ref x, i], []⟩) := by intro _ _; with_unfolding_all rfl) : PE X (.Subscript a b pos) (tOpS (rGet C sp E) ta tb) := by
  obtain ⟨f, fd, F, hs, hf, hbd⟩ := S.ex
  obtain ⟨f', hs', hg⟩ := hg
  have ef : f' = f := by
    rw [hs] at hs'
    injection hs' with h
    injection h with h
    injection h with h
    exact h.symm
  subst ef
  refine ⟨fun pins s σ H Q I h => ?_⟩
  refine Subscript_ (binT ha hb I h fun v u s2 x y H2 I2 rx ry q => ?_)
  obtain ⟨o, dx, fs, rfl, ho, q⟩ := q
  cases rx
  obtain ⟨_, _, J⟩ := inst_of I2 ho
  obtain ⟨m, hF⟩ := I2.fr
  exact PySem.W.sub_K hF I2.ok.mod.kin J hs hg hf (run_at0 (vs := [.ref o, y]) F hr.in1 rfl hbd (hx σ) I2 (.cons rfl (.cons ry .nil)) q) (hsl _ _)
end
/-! ### conversions, sums, slices -/
def cList (K : PySem.W.Frag) : List V → Hp → VK → Prop := fun xs H Q => ∃ p ys, xs = [.ref p] ∧ (SqL K H p ys ∨ SqT K H p ys) ∧ ∀ l, H l = none → Q (.ref l) (upd H l (.lst ys))
def cTuple (K : PySem.W.Frag) : List V → Hp → VK → Prop := fun xs H Q => ∃ p ys, xs = [.ref p] ∧ ((SqL K H p ys ∧ ∀ l, H l = none → Q (.ref l) (upd H l (.tup ys))) ∨ (SqT K H p ys ∧ Q (.ref p) H))
def uSl (K : PySem.W.Frag) : V → Option Int → Option Int → Hp → VK → Prop := fun x lo hi H Q => rSlL K x lo hi H Q ∨ (rSlA K x lo hi H Q ∨ rSlS x lo hi H Q)
section
variable {X : Cx} (K : PySem.W.Frag)
theorem c_list (hK : X.K = K := by rfl) : CallR X (.type "list") (cList K) := by subst hK; exact call_list_of
theorem c_tuple (hK : X.K = K := by rfl) : CallR X (.type "tuple") (cTuple K) := by subst hK; exact call_tuple_of
theorem c_sum (hc : X.calm = true) (hK : X.K = K := by rfl) : CallR X (.builtin "sum") (rSum K) := by subst hK; exact cr_sum hc
theorem c_any (hc : X.calm = true) (hK : X.K = K := by rfl) : CallR X (.builtin "any") (rAny K) := by subst hK; exact cr_any hc
theorem c_all (hc : X.calm = true) (hK : X.K = K := by rfl) : CallR X (.builtin "all") (rAll K) := by subst hK; exact cr_all hc
theorem u_sl (hK : X.K = K := by rfl) : SlR X (uSl K) := by subst hK; exact sl_list.or (sl_tupA.or sl_str)
theorem c_isiT (hK : X.K = K := by rfl) : CallR X (.builtin "isinstance") (rIsiT K) := by subst hK; exact call_isiT
end
/-- isinstance(e, (c1, ..)), e the exception that the suite holds -/
def rIsXT (K : PySem.W.Frag) (mg : Str → Option Value) (a : Addr) (cls : Value) (d : Option Addr) : List V → Hp → VK → Prop := fun xs H Q =>
  ∃ (n : Str) (C fI dd : Addr) (v : V) (tp : Addr) (cs : List V) (us : List Value) (b : Bool), xs = [.ref a, .ref tp] ∧ cls = .ref C ∧ PySem.GErr.ErrTxt K mg n C fI ∧ d = some dd ∧ H dd = some (.xd (subj v)) ∧ H tp = some (.tup cs) ∧ Paired ClsV cs us ∧ PySem.W.kitAny K (.ref C) us = some b ∧ Q (.bl b) H
theorem call_isXT {X : Cx} (K : PySem.W.Frag) (mg : Str → Option Value) {a : Addr} {oe : Obj} {cls : Value} {d : Option Addr} (hz : Zc cls d oe) (hf : ∃ vs, oe.data = .fields vs) (hp : (a, oe) ∈ X.pn := by exact List.Mem.head _) (hK : X.K = K := by rfl) (hM : X.mg = mg := by rfl) : CallR X (.builtin "isinstance") (rIsXT K mg a cls d) := by
  subst hK
  subst hM
  intro pins s σ H xs us Q I r h
  obtain ⟨n, C, fI, dd, v, tp, cs, ws, b, rfl, ec, T, ed, ea, hT, k, hk, q⟩ := h
  subst ec
  subst ed
  obtain ⟨u1, u2, rfl, r1, r2⟩ := vals2 r
  cases r1
  cases (show u2 = Value.ref tp from r2)
  obtain ⟨hget, _⟩ := I.pin (a, oe) (List.mem_append_left _ hp)
  obtain ⟨vs, hd⟩ := hf
  obtain ⟨mA, hns, hr⟩ := (show ObjOk X.prog X.w H s.heap dd (.xd (subj v)) from I.hok dd _ ea)
  obtain ⟨od, ho, hl⟩ := lookIn_ns hns
  have J : PySem.W.InstAt s.heap a oe C (some od) := ⟨hget, hz.1, by unfold PySem.W.notCls; rw [hd] <;> rfl, by rw [hz.2]; exact ho⟩
  have hcl : (PySem.W.clsIn X.K C).isSome = true := by
    obtain ⟨cd, hc, _⟩ := PySem.W.any_some T.hdC
    rw [hc]
    rfl
  obtain ⟨_, its, rv, o, h1, h2, m, h3⟩ := (show ObjOk X.prog X.w H s.heap tp (.tup cs) from I.hok tp _ hT)
  have e3 := ClsV.all k rv
  subst e3
  obtain ⟨oc, od', dt, sl⟩ := o
  simp only at h2 h3
  subst h2 h3
  exact PySem.W.kia_tup (PySem.W.kitx_exc (x := a) (ox := oe) (od := some od) hcl T.ga T.gg T.exC T.haC T.hnC T.htC T.hmC) I.kIn J h1 hk (fun z => nomatch z) fun tk => ⟨.bl b, H, I.tok tk, rfl, q⟩
/-! ### == of data -/
theorem eqv_ints : ∀ {ms ns : List Int}, PyData.eqvAll (ms.map PyData.int) (ns.map PyData.int) = decide (ms = ns)
  | [], [] => by simp [PyData.eqvAll]
  | [], n :: ns => by simp [PyData.eqvAll]
  | m :: ms, [] => by simp [PyData.eqvAll]
  | m :: ms, n :: ns => by
    rw [List.map_cons, List.map_cons]
    unfold PyData.eqvAll
    rw [eqv_ints]
    unfold PyData.eqv
    rw [Bool.eq_iff_iff]
    simp
theorem lay_ints : ∀ {ms : List Int}, PyData.canLayAll0 (ms.map PyData.int) = true ∧ PyData.depthAll (ms.map PyData.int) = 0
  | [] => ⟨rfl, rfl⟩
  | m :: ms => by
    obtain ⟨h1, h2⟩ := lay_ints (ms := ms)
    rw [List.map_cons]
    unfold PyData.canLayAll0 PyData.depthAll
    rw [h1, h2]
    exact ⟨rfl, rfl⟩
section
variable {K : PySem.W.Frag} {H : Hp} {Q : VK} {a b c d l p : Addr} {ms ns : List Int} {xs ys : List V} {n : Nat} {i : Int}
theorem dp_ints : ∀ {ms : List Int}, DpAll K H (ms.map V.int) (ms.map PyData.int)
  | [] => .nil
  | m :: ms => .cons (.int m) dp_ints
theorem shaped_ints : SeqAt.shaped (.list (ms.map PyData.int)) = true := by
  unfold SeqAt.shaped PyData.canLay0 PyData.depth
  rw [lay_ints.1, lay_ints.2]
  rfl
theorem shaped_intsT : SeqAt.shaped (.tuple (ms.map PyData.int)) = true := by
  unfold SeqAt.shaped PyData.canLay0 PyData.depth
  rw [lay_ints.1, lay_ints.2]
  rfl
theorem shaped_1T : SeqAt.shaped (.list [.tuple (ms.map PyData.int)]) = true := by
  unfold SeqAt.shaped PyData.canLay0 PyData.depth PyData.canLayAll0 PyData.depthAll PyData.canLayAll0 PyData.depthAll PyData.canLay0 PyData.depth
  rw [lay_ints.1, lay_ints.2]
  rfl
theorem v_eqLI (ha : H a = some (.lst (ms.map V.int))) (hb : H b = some (.lst (ns.map V.int))) (q : Q (.bl (decide (ms = ns))) H) : uEq K (.ref a) (.ref b) H Q :=
  .inr ⟨_, _, .lst (SqL.of ha) dp_ints, .lst (SqL.of hb) dp_ints, shaped_ints, shaped_ints, by unfold PyData.eqv; rw [eqv_ints]; exact q⟩
theorem v_neLI (ha : H a = some (.lst (ms.map V.int))) (hb : H b = some (.lst (ns.map V.int))) (q : Q (.bl (!decide (ms = ns))) H) : uNe K (.ref a) (.ref b) H Q :=
  .inr ⟨_, _, .lst (SqL.of ha) dp_ints, .lst (SqL.of hb) dp_ints, shaped_ints, shaped_ints, by unfold PyData.eqv; rw [eqv_ints]; exact q⟩
theorem v_eqTI (ha : H a = some (.tup (ms.map V.int))) (hb : H b = some (.tup (ns.map V.int))) (q : Q (.bl (decide (ms = ns))) H) : uEq K (.ref a) (.ref b) H Q :=
  .inr ⟨_, _, .tup (SqT.of ha) dp_ints, .tup (SqT.of hb) dp_ints, shaped_intsT, shaped_intsT, by unfold PyData.eqv; rw [eqv_ints]; exact q⟩
theorem v_neTI (ha : H a = some (.tup (ms.map V.int))) (hb : H b = some (.tup (ns.map V.int))) (q : Q (.bl (!decide (ms = ns))) H) : uNe K (.ref a) (.ref b) H Q :=
  .inr ⟨_, _, .tup (SqT.of ha) dp_ints, .tup (SqT.of hb) dp_ints, shaped_intsT, shaped_intsT, by unfold PyData.eqv; rw [eqv_ints]; exact q⟩
theorem v_neL1T (ha : H a = some (.lst [.ref c])) (hc : H c = some (.tup (ms.map V.int))) (hb : H b = some (.lst [.ref d])) (hd : H d = some (.tup (ns.map V.int))) (q : Q (.bl (!decide (ms = ns))) H) : uNe K (.ref a) (.ref b) H Q :=
  .inr ⟨_, _, .lst (SqL.of ha) (.cons (.tup (SqT.of hc) dp_ints) .nil), .lst (SqL.of hb) (.cons (.tup (SqT.of hd) dp_ints) .nil), shaped_1T, shaped_1T, by
    have e : PyData.eqv (.list [.tuple (ms.map PyData.int)]) (.list [.tuple (ns.map PyData.int)]) = decide (ms = ns) := by
      have e0 : PyData.eqv (.list [.tuple (ms.map PyData.int)]) (.list [.tuple (ns.map PyData.int)]) = (PyData.eqvAll (ms.map PyData.int) (ns.map PyData.int) && true) := by simp only [PyData.eqv, PyData.eqvAll]
      rw [e0, eqv_ints, Bool.and_true]
    rw [e]
    exact q⟩
/-! ### conversions by values -/
theorem v_listL (ha : H a = some (.lst xs)) (k : ∀ p H2, H p = none → Ext H H2 → H2 p = some (.lst xs) → Q (.ref p) H2) : cList K [.ref a] H Q := ⟨a, xs, rfl, .inl (SqL.of ha), fun p hp => k p _ hp (Ext.new hp) upd_same⟩
theorem v_listT (ha : H a = some (.tup xs)) (k : ∀ p H2, H p = none → Ext H H2 → H2 p = some (.lst xs) → Q (.ref p) H2) : cList K [.ref a] H Q := ⟨a, xs, rfl, .inr (SqT.of ha), fun p hp => k p _ hp (Ext.new hp) upd_same⟩
theorem v_tupL (ha : H a = some (.lst xs)) (k : ∀ p H2, H p = none → Ext H H2 → H2 p = some (.tup xs) → Q (.ref p) H2) : cTuple K [.ref a] H Q := ⟨a, xs, rfl, .inl ⟨SqL.of ha, fun p hp => k p _ hp (Ext.new hp) upd_same⟩⟩
theorem v_tupT (ha : H a = some (.tup xs)) (k : Q (.ref a) H) : cTuple K [.ref a] H Q := ⟨a, xs, rfl, .inr ⟨SqT.of ha, k⟩⟩
theorem v_sum (ha : H a = some (.lst (ms.map V.int))) (k : Q (.int ms.sum) H) : rSum K [.ref a] H Q := ⟨a, ms, rfl, SqL.of ha, k⟩
theorem v_any {bs : List Bool} (ha : H a = some (.lst (bs.map V.bl))) (k : Q (.bl (bs.any id)) H) : rAny K [.ref a] H Q := ⟨a, bs, rfl, SqL.of ha, k⟩
theorem v_all {bs : List Bool} (ha : H a = some (.lst (bs.map V.bl))) (k : Q (.bl (bs.all id)) H) : rAll K [.ref a] H Q := ⟨a, bs, rfl, SqL.of ha, k⟩
/-- xs[:n], a list -/
theorem v_slLn (ha : H a = some (.lst xs)) (k : ∀ p H2, H p = none → Ext H H2 → H2 p = some (.lst (xs.take n)) → Q (.ref p) H2) : uSl K (.ref a) none (some (n : Int)) H Q := by
  refine .inl ⟨a, xs, rfl, SqL.of ha, fun p hp => k p _ hp (Ext.new hp) ?_⟩
  rw [upd_same]
  have e : cutV xs none (some (n : Int)) = xs.take n := by
    unfold cutV
    have e1 : HT.sIx xs.length 0 none = 0 := rfl
    rw [e1, HT.sIx_nat, Nat.sub_zero, List.drop_zero]
    rcases Nat.le_total n xs.length with h | h
    · rw [Nat.min_eq_left h]
    · rw [Nat.min_eq_right h, List.take_length, List.take_of_length_le h]
  rw [e]
theorem rep_flat {v : V} : ∀ n : Nat, (List.replicate n [v]).flatten = List.replicate n v
  | 0 => rfl
  | n + 1 => by rw [List.replicate_succ, List.replicate_succ, List.flatten_cons, rep_flat n]; rfl
theorem v_rep1 {v : V} (ha : H a = some (.lst [v])) (hn : n ≤ 1000000) (k : ∀ p H2, H p = none → Ext H H2 → H2 p = some (.lst (List.replicate n v)) → Q (.ref p) H2) : uMul (.ref a) (.int (n : Int)) H Q := by
  refine .inr ⟨a, n, [v], rfl, rfl, ha, by omega, by omega, ?_, fun p hp => k p _ hp (Ext.new hp) ?_⟩
  · have := sizeLine_eq
    simp
    omega
  · rw [upd_same]
    rw [Int.toNat_natCast, rep_flat]
theorem v_isTT (ha : H a = some (.tup xs)) (q : Q (.bl true) H) : rIsi K [.ref a, .ty "tuple"] H Q := ⟨.ref a, .ty "tuple", .type "tuple", .type "tuple", true, rfl, .ty _, .base (.tup ha), kit_ty (by decide +kernel), q⟩
end
theorem pe_mkRSK {X : Cx} {C : Addr} {sp : Sp} {E : L2.St → XK} {te : TE} {e : Expr} (K : PySem.W.Frag) (h : PE X e (tMkRS X.K C sp E te)) (hK : X.K = K := by rfl) : PE X e (tMkRS K C sp E te) := by subst hK; exact h
theorem pe_zipLK {X : Cx} {t : TA} {e : Expr} (K : PySem.W.Frag) (h : PE X e (tZipL X.K t)) (hK : X.K = K := by rfl) : PE X e (tZipL K t) := by subst hK; exact h
theorem br_yes {p A B : Prop} [Decidable p] (h : p) (k : A) : Br (decide p) A B := by rw [decide_eq_true h]; exact br_t k
theorem br_no {p A B : Prop} [Decidable p] (h : ¬ p) (k : B) : Br (decide p) A B := by rw [decide_eq_false h]; exact br_f k
/-! ### slices, step by step -/
def rPart (x : V) (H : Hp) (Q : Option Int → Hp → Prop) : Prop := ∃ i, x = .int i ∧ Q (some i) H
section
variable {K : PySem.W.Frag} {σ : L2.St} {H : Hp} {Q : VK} {QO : Option Int → Hp → Prop} {te ta tb : TE} {tl th : TO} {i : Int} {sp : Sp} {E : L2.St → XK} {C a dx : Addr} {fs : List (Str × V)} {y : V}
instance i_sl {r : V → Option Int → Option Int → Hp → VK → Prop} : St1 (tSl r te tl th σ H Q) (te σ H fun x H1 => tl σ H1 fun l H2 => th σ H2 fun u H3 => r x l u H3 Q) := ⟨fun h => h⟩
instance i_nopart : St1 (tNoPart σ H QO) (QO none H) := ⟨fun h => h⟩
instance i_part : St1 (tPart te σ H QO) (te σ H fun x H1 => rPart x H1 QO) := ⟨fun h => h⟩
instance i_partI : St1 (rPart (.int i) H QO) (QO (some i) H) := ⟨fun h => ⟨i, rfl, h⟩⟩
theorem v_get (ha : H a = some (.ins C dx fs)) (q : sp [.ref a, y] H Q (E σ)) : rGet C sp E σ (.ref a) y H Q := ⟨a, dx, fs, rfl, ha, q⟩
theorem v_isXT {mg : Str → Option Value} {n : Str} {fI dd tp : Addr} {v : V} {cs : List V} {us : List Value} {b : Bool} (T : PySem.GErr.ErrTxt K mg n C fI) (hd : H dd = some (.xd (subj v))) (hT : H tp = some (.tup cs)) (hp : Paired ClsV cs us) (k : PySem.W.kitAny K (.ref C) us = some b) (q : Q (.bl b) H) : rIsXT K mg a (.ref C) (some dd) [.ref a, .ref tp] H Q :=
  ⟨n, C, fI, dd, v, tp, cs, us, b, rfl, rfl, T, rfl, hd, hT, hp, k, q⟩
end
/-! ### comprehensions by a walk -/
/-- the test and the element of a comprehension, its names set -/
def LcT (vs : List Nat) (σw : L2.St) (tt : TT) (te : TE) (kY : VK) (kN : Hp → Prop) (σ2 : L2.St) (H2 : Hp) : Prop := wipe σ2 vs = σw ∧ tt σ2 H2 fun b H3 => Br b (te σ2 H3 kY) (kN H3)
section
variable {K : PySem.W.Frag} {J : It} {n : Nat} {G : Hp → Prop} {Y : Nat → Hp → V → Hp → Prop} {σ σw : L2.St} {H : Hp} {g : TG} {tt : TT} {te : TE} {vs : List Nat} {Q : VK} {kY : VK} {kN : Hp → Prop}
instance i_lct [a : WipeS σ vs σw] : St1 (LcT vs σw tt te kY kN σ H) (tt σ H fun b H3 => Br b (te σ H3 kY) (kN H3)) := ⟨fun h => ⟨a.h, h⟩⟩
theorem f_it {nx bk ct : L2.St → Hp → Prop} {rt : VK} {t : TS} (w : Walk J n G Y) (Pv : Nat → L2.St → Hp → Prop) (h0 : Pv 0 σ H) (hG : ∀ i σ H, i ≤ n → Pv i σ H → G H)
    (hs : ∀ i x σ H H', i < n → Pv i σ H → Y i H x H' → g x σ H' fun σ2 H2 => Run t (Pv (i + 1)) rt nx (Pv (i + 1)) σ2 H2) (hd : ∀ σ H, Pv n σ H → nx σ H) : rFor J g t nx rt bk ct σ H := for_it (D := ⟨nx, rt, bk, ct⟩) w Pv h0 hG hs hd
/-- the new list at D has its items so far, of which R -/
def LcAtW (D : Addr) (j : Nat) (R : Nat → List V → Hp → Prop) (H : Hp) : Prop := ∃ acc, H D = some (.lst acc) ∧ acc.length ≤ j ∧ R j acc H
def AccK (D : Addr) (j : Nat) (R : Nat → List V → Hp → Prop) (y : V) (H : Hp) : Prop := rAcc D (LcAtW D j R) y H
theorem v_accK {D : Addr} {j : Nat} {R : Nat → List V → Hp → Prop} {acc : List V} {y : V} (hD : H D = some (.lst acc)) (hl : acc.length < j) (hj : j ≤ 1000000) (k : ∀ H2, But D H H2 → R j (acc ++ [y]) H2) : AccK D j R y H :=
  ⟨acc, hD, by have := sizeLine_eq; omega, acc ++ [y], upd_same, by simp; omega, k _ But.upd⟩
theorem lcW (w : Walk J n G Y) [a : WipeS σ vs σw] (R : Nat → List V → Hp → Prop) (h0 : ∀ H1, Ext H H1 → R 0 [] H1) (hG : ∀ i acc H1, i ≤ n → R i acc H1 → G H1)
    (hs : ∀ i x D acc H1 H1', H D = none → i < n → R i acc H1 → Y i H1 x H1' → H1 D = some (.lst acc) → acc.length ≤ i → g x σw H1' fun σ2 H2 => LcT vs σw tt te (AccK D (i + 1) R) (LcAtW D (i + 1) R) σ2 H2)
    (hd : ∀ D acc H1, H D = none → H1 D = some (.lst acc) → acc.length ≤ n → R n acc H1 → Q (.ref D) H1) : rLc J g tt te vs σ H Q := by
  intro D hD
  refine lc_it w (Pv := fun i H1 => LcAtW D i R H1) ⟨[], upd_same, Nat.le_refl _, h0 _ (Ext.new hD)⟩ ?_ ?_ ?_
  · rintro i H1 hi ⟨acc, ha, hl, hr⟩
    exact hG i acc H1 hi hr
  · rintro i x H1 H1' hi ⟨acc, ha, hl, hr⟩ hy
    rw [a.h]
    exact hs i x D acc H1 H1' hD hi hr hy ha hl
  · rintro H1 ⟨acc, ha, hl, hr⟩
    exact hd D acc H1 hD ha hl hr
/-- [e for x in ..], e's value told, what was stays -/
theorem lcP (w : Walk J n G Y) [a : WipeS σ vs σw] (hn : n ≤ 1000000) (f : Nat → V) (hG : ∀ H1, Ext H H1 → G H1) (hY : ∀ i H1 x H1', Y i H1 x H1' → Ext H1 H1')
    (hs : ∀ i x H1 H1' (k : VK), i < n → Ext H H1 → Y i H1 x H1' → (∀ H2, Ext H1' H2 → k (f i) H2) → g x σw H1' fun σ2 H2 => LcK vs σw te k σ2 H2)
    (hd : ∀ D H1, H D = none → Ext H H1 → H1 D = some (.lst ((List.range n).map f)) → Q (.ref D) H1) : rLc J g tYes te vs σ H Q := by
  refine lcW w (fun i acc H1 => Ext H H1 ∧ acc = (List.range i).map f) (fun H1 e => ⟨e, rfl⟩) (fun i acc H1 _ h => hG H1 h.1) ?_ ?_
  · rintro i x D acc H1 H1' hD hi ⟨e, rfl⟩ hy h1 hl
    refine hs i x H1 H1' _ hi e hy fun H2 e2 => ?_
    have e1 := hY i H1 x H1' hy
    refine v_accK ((e1.trans e2).look h1) (by simp) (by omega) fun H3 b3 => ⟨b3.ext ((e.trans e1).trans e2) hD, ?_⟩
    rw [List.range_succ, List.map_append, List.map_singleton]
  · rintro D acc H1 hD h1 hl ⟨e, rfl⟩
    exact hd D H1 hD e h1
theorem yat_ext {xs : List V} {i : Nat} {H1 H1' : Hp} {x : V} (h : YAt xs i H1 x H1') : Ext H1 H1' := by rw [h.1]; exact Ext.rfl
theorem yfn_ext {f : Nat → V} {i : Nat} {H1 H1' : Hp} {x : V} (h : YFn f i H1 x H1') : Ext H1 H1' := by rw [h.1]; exact Ext.rfl
/-- .. over a list -/
theorem lcPL {ad : Addr} {xs : List V} [a : WipeS σ vs σw] (ha : H ad = some (.lst xs)) (hn : xs.length ≤ 1000000) (f : Nat → V)
    (hs : ∀ i x H1 (k : VK), xs[i]? = some x → Ext H H1 → (∀ H2, Ext H1 H2 → k (f i) H2) → g x σw H1 fun σ2 H2 => LcK vs σw te k σ2 H2)
    (hd : ∀ D H1, H D = none → Ext H H1 → H1 D = some (.lst ((List.range xs.length).map f)) → Q (.ref D) H1) : rLc (Itl K ad) g tYes te vs σ H Q :=
  lcP (walk_list (xs := xs)) hn f (fun H1 e => SqL.of (e.look ha)) (fun _ _ _ _ h => yat_ext h) (fun i x H1 H1' k _ e hy hk => by obtain ⟨rfl, hx⟩ := hy; exact hs i x H1' k hx e hk) hd
theorem lcPT {ad : Addr} {xs : List V} [a : WipeS σ vs σw] (ha : H ad = some (.tup xs)) (hn : xs.length ≤ 1000000) (f : Nat → V)
    (hs : ∀ i x H1 (k : VK), xs[i]? = some x → Ext H H1 → (∀ H2, Ext H1 H2 → k (f i) H2) → g x σw H1 fun σ2 H2 => LcK vs σw te k σ2 H2)
    (hd : ∀ D H1, H D = none → Ext H H1 → H1 D = some (.lst ((List.range xs.length).map f)) → Q (.ref D) H1) : rLc (Itt K ad) g tYes te vs σ H Q :=
  lcP (walk_tup (xs := xs)) hn f (fun H1 e => SqT.of (e.look ha)) (fun _ _ _ _ h => yat_ext h) (fun i x H1 H1' k _ e hy hk => by obtain ⟨rfl, hx⟩ := hy; exact hs i x H1' k hx e hk) hd
theorem lcPR {lo : Int} [a : WipeS σ vs σw] (hn : n ≤ 1000000) (f : Nat → V)
    (hs : ∀ (i : Nat) H1 (k : VK), i < n → Ext H H1 → (∀ H2, Ext H1 H2 → k (f i) H2) → g (.int (lo + i)) σw H1 fun σ2 H2 => LcK vs σw te k σ2 H2)
    (hd : ∀ D H1, H D = none → Ext H H1 → H1 D = some (.lst ((List.range n).map f)) → Q (.ref D) H1) : rLc (Itr lo n) g tYes te vs σ H Q :=
  lcP walk_range hn f (fun H1 e => trivial) (fun _ _ _ _ h => yfn_ext h) (fun i x H1 H1' k hi e hy hk => by obtain ⟨rfl, rfl⟩ := hy; exact hs i H1' k hi e hk) hd
theorem lcPR0 [a : WipeS σ vs σw] (hn : n ≤ 1000000) (f : Nat → V)
    (hs : ∀ (i : Nat) H1 (k : VK), i < n → Ext H H1 → (∀ H2, Ext H1 H2 → k (f i) H2) → g (.int (i : Int)) σw H1 fun σ2 H2 => LcK vs σw te k σ2 H2)
    (hd : ∀ D H1, H D = none → Ext H H1 → H1 D = some (.lst ((List.range n).map f)) → Q (.ref D) H1) : rLc (Itr 0 n) g tYes te vs σ H Q :=
  lcPR hn f (fun i H1 k hi e hk => by rw [Int.zero_add]; exact hs i H1 k hi e hk) hd
/-- [e for x in ..], the heap changing at p alone, of which S holds; R of each item -/
theorem lcB (w : Walk J n G Y) [a : WipeS σ vs σw] (hn : n ≤ 1000000) {p : Addr} {ps : List V} (hp : H p = some (.lst ps)) (S : Hp → Prop) (R : Nat → V → Prop) (h0 : S H) (hSm : ∀ H1 H2 D, But p H H1 → S H1 → H D = none → D ≠ p → But D H1 H2 → S H2) (hG : ∀ H1, But p H H1 → S H1 → G H1) (hY : ∀ i H1 x H1', Y i H1 x H1' → Ext H1 H1')
    (hs : ∀ i x H1 H1' (k : VK), i < n → But p H H1 → S H1 → Y i H1 x H1' → (∀ y H2, But p H1' H2 → S H2 → R i y → k y H2) → g x σw H1' fun σ2 H2 => LcK vs σw te k σ2 H2)
    (hd : ∀ D ys H1, H D = none → But p H H1 → S H1 → H1 D = some (.lst ys) → ys.length = n → (∀ i y, ys[i]? = some y → R i y) → Q (.ref D) H1) : rLc J g tYes te vs σ H Q := by
  have nD : ∀ D, H D = none → D ≠ p := fun D hD => Ne.symm (ne_of_none hp hD)
  intro D hD
  refine lc_it w (Pv := fun i H1 => LcAtW D i (fun i acc H1 => But p H H1 ∧ S H1 ∧ acc.length = i ∧ ∀ j y, acc[j]? = some y → R j y) H1) ⟨[], upd_same, Nat.le_refl _, (Ext.new hD).but, hSm H _ D But.rfl h0 hD (nD D hD) But.upd, rfl, fun j y h => by simp at h⟩ ?_ ?_ ?_
  · rintro i H1 hi ⟨acc, ha, hl, hb, hS, _⟩
    exact hG H1 hb hS
  · rintro i x H1 H1' hi ⟨acc, ha, hl, hb, hS, he, hr⟩ hy
    rw [a.h]
    refine hs i x H1 H1' _ hi hb hS hy fun y H2 b2 s2 r2 => ?_
    have e1 := hY i H1 x H1' hy
    refine v_accK (D := D) (j := i + 1) (b2.look (nD D hD) (e1.look ha)) (by omega) (by omega) fun H3 b3 => ?_
    have bb : But p H H2 := (hb.exts e1).trans b2
    refine ⟨fun q o nq z => b3 q o (ne_of_none z hD) (bb q o nq z), hSm H2 H3 D bb s2 hD (nD D hD) b3, by simp; omega, fun j z hz => ?_⟩
    by_cases hj : j < acc.length
    · rw [List.getElem?_append_left hj] at hz
      exact hr j z hz
    · rw [List.getElem?_append_right (by omega)] at hz
      have : j - acc.length = 0 := by
        cases hjj : j - acc.length with
        | zero => rfl
        | succ m => rw [hjj] at hz; simp at hz
      rw [this] at hz
      obtain rfl : y = z := by simpa using hz
      rw [show j = i by omega]
      exact r2
  · rintro H1 ⟨acc, ha, hl, hb, hS, he, hr⟩
    exact hd D acc H1 hD hb hS ha he hr
end
end GG

/-! GC: C.m(..) of the text: static methods with **kw, classmethods, class constants; walks over a dict's keys. -/
namespace GG
open PySem PySem.Spec L2 PyProof.Rows
/-! ### a def with **kw, called with keywords -/
theorem push_upd {h : Heap} {o : Obj} {f : Obj → Obj} : (h.push o).update h.objs.size f = h.push (f o) := by
  obtain ⟨objs, l⟩ := h
  show (⟨(objs.push o).modify objs.size f, l⟩ : Heap) = ⟨objs.push (f o), l⟩
  congr 1
  apply Array.ext
  · simp
  · intro i h1 h2
    rw [Array.getElem_modify]
    by_cases e : objs.size = i
    · subst e
      simp
    · rw [if_neg e]
      rw [Array.getElem_push, Array.getElem_push]
      have : i < objs.size := by
        simp at h2
        omega
      rw [dif_pos this, dif_pos this]
theorem set_push {M : Model} {A : Around} {E : Value → Shared → Prop} {s : Shared} {h : Heap} {es : List DictEntry} {n : Nat} {k : Str} {v : Value} {Q : Unit → Shared → Prop} (hh : s.heap = h.push (PySem.W.dictOf es n))
    (hs : ∀ e ∈ es, e.key.isStr k = false) (hr : ∀ e ∈ es, e.refKey = false)
    (q : Q () { s with heap := h.push (PySem.W.dictOf (es ++ [⟨PyData.keyHash M.w.params k, .str k s.toks, v⟩]) (n + 1)), toks := s.toks + 1 }) : wpAny M A (nsSet h.objs.size k v) Q E s := by
  have e1 : es.any (·.key.isStr k) = false := by
    cases z : es.any (·.key.isStr k) with
    | false => rfl
    | true => obtain ⟨e, he, y⟩ := List.any_eq_true.mp z; rw [hs e he] at y; cases y
  have e2 : es.any (·.refKey) = false := by
    cases z : es.any (·.refKey) with
    | false => rfl
    | true => obtain ⟨e, he, y⟩ := List.any_eq_true.mp z; rw [hr e he] at y; cases y
  have e : Obj.putName k (PyData.keyHash M.w.params k) (.str k s.toks) v (PySem.W.dictOf es n) = PySem.W.dictOf (es ++ [⟨PyData.keyHash M.w.params k, .str k s.toks, v⟩]) (n + 1) := by
    rw [PySem.W.putName_dict, PySem.W.putL_new hs]
    show PySem.W.dictOf _ (if es.any (·.key.isStr k) then n else n + 1) = _
    rw [e1, if_neg Bool.false_ne_true]
  have D : s.heap.get? h.objs.size = some (PySem.W.dictOf es n) := by rw [hh]; exact Heap.get?_push_size _ rfl
  have c : aRefKeyMayBeTheName k es.toArray = false := by
    rw [aRefKeyMayBeTheName_at, ← Array.any_toList, ← Array.any_toList]
    show (!es.any (·.key.isStr k) && es.any (·.refKey)) = false
    rw [e2, Bool.and_false]
  unfold nsSet
  refine wpAny_bind (wpAny_bind (wpAny_askSetting (wpAny_pure (wpAny_bind (wpAny_mkText (wpAny_bind (wpAny_loadPart D ?_)))))))
  dsimp only
  rw [c]
  refine wpAny_updatePart D ?_
  show Q () { s with heap := s.heap.update h.objs.size _, toks := s.toks + 1 }
  rw [hh, push_upd]
  show Q () { s with heap := h.push (Obj.putName k (PyData.keyHash M.w.params k) (.str k s.toks) v (PySem.W.dictOf es n)), toks := s.toks + 1 }
  rw [e]
  exact q
theorem fill_push {M : Model} {A : Around} {E : Value → Shared → Prop} {h : Heap} {Q : PUnit → Shared → Prop} : ∀ (ex : List (Str × Value)) (s : Shared) (es : List DictEntry) (n : Nat), s.heap = h.push (PySem.W.dictOf es n) →
    (∀ e ∈ es, ∀ x ∈ ex, e.key.isStr x.1 = false) → (∀ e ∈ es, e.refKey = false) → (ex.map (·.1)).Nodup →
    Q ⟨⟩ { s with heap := h.push (PySem.W.dictOf (es ++ PySem.W.kwEs M.w.params s.toks ex) (n + ex.length)), toks := s.toks + ex.length } →
    wpAny M A (forIn ex PUnit.unit fun x _ => (nsSet h.objs.size x.1 x.2 >>= fun _ => pure (ForInStep.yield PUnit.unit))) Q E s
  | [], s, es, n, hh, _, _, _, q => by
    rw [List.forIn_nil]
    refine wpAny_pure ?_
    have e : ({ s with heap := h.push (PySem.W.dictOf (es ++ PySem.W.kwEs M.w.params s.toks []) (n + ([] : List (Str × Value)).length)), toks := s.toks + ([] : List (Str × Value)).length } : Shared) = s := by
      show ({ s with heap := h.push (PySem.W.dictOf (es ++ []) n) } : Shared) = s
      rw [List.append_nil, ← hh]
    rw [e] at q
    exact q
  | x :: r, s, es, n, hh, hs, hr, hn, q => by
    obtain ⟨hn1, hn2⟩ := List.nodup_cons.mp (show (x.1 :: r.map (·.1)).Nodup from hn)
    rw [List.forIn_cons]
    refine wpAny_bind (wpAny_bind (set_push hh (fun e he => hs e he x (.head _)) hr (wpAny_pure ?_)))
    refine fill_push (h := h) r _ _ _ rfl (fun e he y hy => ?_) (fun e he => ?_) hn2 ?_
    · rcases List.mem_append.mp he with he | he
      · exact hs e he y (.tail _ hy)
      · obtain rfl := List.mem_singleton.mp he
        show (x.1 == y.1) = false
        exact beq_eq_false_iff_ne.mpr fun z => hn1 (by rw [z]; exact List.mem_map_of_mem hy)
    · rcases List.mem_append.mp he with he | he
      · exact hr e he
      · obtain rfl := List.mem_singleton.mp he
        rfl
    · have t1 : s.toks + 1 + r.length = s.toks + (r.length + 1) := by omega
      have t2 : n + 1 + r.length = n + (r.length + 1) := by omega
      show Q ⟨⟩ { s with heap := h.push (PySem.W.dictOf ((es ++ [_]) ++ PySem.W.kwEs M.w.params (s.toks + 1) r) (n + 1 + r.length)), toks := s.toks + 1 + r.length }
      rw [t1, t2, List.append_assoc]
      exact q
/-- the keywords as a dict's pairs -/
def kwD (ks : List Str) (zs : List V) : List (Key × V) := (ks.map Sum.inr).zip zs
theorem kwD_rel : ∀ {ks : List Str} {zs : List V} {ws : List Value}, Vals zs ws → KV (kwD ks zs) ((ks.map (Sum.inr : Str → Key)).zip ws)
  | [], _, _, _ => .nil
  | k :: ks, _, _, .nil => .nil
  | k :: ks, _, _, .cons a r => .cons ⟨rfl, a⟩ (kwD_rel (ks := ks) r)
theorem kw_pairs {P : Program} {w : World} : ∀ (ks : List Str) (ws : List Value) (t : Tok), Pairs (mixKind P w) (PySem.W.kwEs w.params t (ks.zip ws)) ((ks.map (Sum.inr : Str → Key)).zip ws)
  | [], _, _ => .nil
  | k :: ks, [], _ => .nil
  | k :: ks, u :: ws, t => Pairs.cons (keyIs_str k t) rfl (kw_pairs ks ws (t + 1))
theorem kw_nodup : ∀ {ks : List Str} {ws : List Value}, ks.Nodup → (((ks.map (Sum.inr : Str → Key)).zip ws).map (·.1)).Nodup
  | [], _, _ => List.nodup_nil
  | k :: ks, [], _ => List.nodup_nil
  | k :: ks, u :: ws, h => by
    obtain ⟨h1, h2⟩ := List.nodup_cons.mp h
    refine List.nodup_cons.mpr ⟨fun hm => ?_, kw_nodup h2⟩
    obtain ⟨p, hp, e⟩ := List.mem_map.mp hm
    obtain ⟨y, hy, e2⟩ := List.mem_map.mp (List.of_mem_zip hp).1
    have e3 : y = k := Sum.inr.inj (e2.trans e)
    exact h1 (e3 ▸ hy)
theorem kw_nodupS : ∀ {ks : List Str} {ws : List Value}, ks.Nodup → ((ks.zip ws).map (·.1)).Nodup
  | [], _, _ => List.nodup_nil
  | k :: ks, [], _ => List.nodup_nil
  | k :: ks, u :: ws, h => by
    obtain ⟨h1, h2⟩ := List.nodup_cons.mp h
    refine List.nodup_cons.mpr ⟨fun hm => ?_, kw_nodupS h2⟩
    obtain ⟨p, hp, e⟩ := List.mem_map.mp hm
    have e2 : p.1 = k := e
    have := (List.of_mem_zip hp).1
    rw [e2] at this
    exact h1 this
theorem kw_dict {P : Program} {w : World} {h : Heap} {ks : List Str} {ws : List Value} {t : Tok} {n : Nat} (hn : ks.Nodup) : (h.push (PySem.W.dictOf (PySem.W.kwEs w.params t (ks.zip ws)) n)).DictOf (mixKind P w) h.objs.size ((ks.map (Sum.inr : Str → Key)).zip ws) := by
  refine ⟨_, (PySem.W.kwEs w.params t (ks.zip ws)).toArray, n, Heap.get?_push_size _ rfl, ⟨rfl, rfl, rfl⟩, rfl, fun e he => ?_, kw_pairs ks ws t, kw_nodup hn⟩
  obtain ⟨k, u, hk, hh⟩ := PySem.W.kwEs_key (ks.zip ws) t e (List.mem_toArray.mp he)
  exact ⟨.inr k, by rw [hk]; exact keyIs_str k u, hh.trans rfl⟩
/-- a def with **kw, called with n values and the keywords ks -/
def FnKw (P : Program) (w : World) (K : PySem.W.Frag) (mg : Str → Option Value) (base : Heap) (k : Nat) (f : Addr) (n : Nat) (ks : List Str) (sp : Sp) : Prop :=
  ∀ (A : Around) (outer : List Env) (s : Shared) (H : Hp) (us ws : List Value) (vs zs : List V) (Q : VK) (E : XK), Room k A → Env0 P w K mg base A outer s H → Vals vs us → Vals zs ws → vs.length = n → zs.length = ks.length →
    (∀ d o, H d = Option.none → sp (vs ++ [V.ref d]) (upd H d (.frz o (.dK (kwD ks zs)))) Q E) → codeAny (model P w) A (.call (.ref f) ⟨us, ks.zip ws⟩) (CR (L2N.CX P w) outer P w H s Q E) s
section
variable {P : Program} {w : World} {K : PySem.W.Frag} {mg : Str → Option Value} {base : Heap} {k : Nat} {f : Addr} {name qual : Str} {params : Arguments} {body : List Stmt} {scope : Scope} {dV kV doc pm cdv ct oc : Value} {an od : Option Addr}
  {osl : Array (Option Value)} {N ps : List Str} {sp : Sp}
theorem fn_kw {pd : Str} {ks : List Str} (hn : ks.Nodup) (hz : ks.length ≤ sizeLine) (lk : K.lookup f = some ⟨oc, od, .func (PySem.W.fnOf name qual params body scope dV kV doc pm an cdv ct), osl⟩) (hcd : PySem.W.codeIn K cdv qual = true) (S : FnScope N (ps ++ [pd]) scope)
    (hb : ∀ us ws : List Value, us.length = ps.length → ws.length = ks.length → bindArgs (PySem.W.fnOf name qual params body scope dV kV doc pm an cdv ct) ⟨us, ks.zip ws⟩ =
      ((alloc (PySem.W.dictOf [] 0) : Sem Addr) >>= fun D => (forIn (ks.zip ws) PUnit.unit fun x _ => (nsSet D x.1 x.2 >>= fun _ => pure (ForInStep.yield PUnit.unit))) >>= fun _ => pure (ps.zip us ++ [(pd, Value.ref D)])))
    (hbody : ∀ (A : Around) (outer : List Env) (s : Shared) (H : Hp) (vs : List V) (Q : VK) (E : XK), Room k (A.deeper (envOfC qual scope s.heap.objs.size f cdv)) → sp vs H Q E →
      ∃ t, PSs (cxOf (L2N.CX P w) P w K mg base N qual scope f cdv A outer s H E) body t ∧ t { nx := fun _ H' => Q .non H', rt := Q } (start N vs) H) :
    FnKw P w K mg base (k + 1) f ps.length ks sp := by
  intro A outer s H us ws vs zs Q E hr e0 r rz hl1 hl2 hq
  have hl1' : us.length = ps.length := by rw [← r.length]; exact hl1
  have hl2' : ws.length = ks.length := by rw [← rz.length]; exact hl2
  have hn0 : H s.heap.objs.size = Option.none := e0.hok.fresh (Nat.le_refl _)
  refine StX.run_bnd lk hcd S hr e0 (G := fun xs H2 => ∃ d o, H d = Option.none ∧ xs = vs ++ [V.ref d] ∧ H2 = upd H d (.frz o (.dK (kwD ks zs)))) (fun A' Ex Q' h => ?_) fun s2 H2 xs ⟨p, o, hp, ex, eH⟩ hr' => ?_
  · rw [hb us ws hl1' hl2']
    refine wpAny_bind (wpAny_alloc (wpAny_bind (fill_push (h := s.heap) (ks.zip ws) _ [] 0 rfl (fun _ he => nomatch he) (fun _ he => nomatch he) (kw_nodupS hn) (wpAny_pure ?_))))
    have new : ObjOk P w (upd H s.heap.objs.size (.frz (PySem.W.dictOf ([] ++ PySem.W.kwEs w.params s.toks (ks.zip ws)) (0 + (ks.zip ws).length)) (.dK (kwD ks zs)))) (s.heap.push (PySem.W.dictOf ([] ++ PySem.W.kwEs w.params s.toks (ks.zip ws)) (0 + (ks.zip ws).length))) s.heap.objs.size (.frz (PySem.W.dictOf ([] ++ PySem.W.kwEs w.params s.toks (ks.zip ws)) (0 + (ks.zip ws).length)) (.dK (kwD ks zs))) := by
      refine ⟨Heap.get?_push_size _ rfl, ?_, beq_eq_false_iff_ne.mpr (Ne.symm (Nat.ne_of_lt (StX.env0_big e0))), _, kwD_rel rz, ?_⟩
      · unfold kwD
        rw [List.length_zip, List.length_map]
        omega
      · exact kw_dict hn
    have un := StX.un_laid (fs := frs outer) (s := s) (o := PySem.W.dictOf ([] ++ PySem.W.kwEs w.params s.toks (ks.zip ws)) (0 + (ks.zip ws).length)) (u := .frz (PySem.W.dictOf ([] ++ PySem.W.kwEs w.params s.toks (ks.zip ws)) (0 + (ks.zip ws).length)) (.dK (kwD ks zs))) hn0
    have e1 := StX.env0_laid e0 new
    have e2 : Env0 P w K mg base A outer { s with heap := s.heap.push (PySem.W.dictOf ([] ++ PySem.W.kwEs w.params s.toks (ks.zip ws)) (0 + (ks.zip ws).length)), toks := s.toks + (ks.zip ws).length } _ := ⟨e1.frames, e1.mod, e1.bs, e1.bsz, e1.funs, e1.frf, e1.hok, e1.bare⟩
    have z := h _ _ (vs ++ [V.ref s.heap.objs.size]) (us ++ [Value.ref s.heap.objs.size]) e2 un rfl (fun e s' => cxUpN outer s H _ _ E e s' un (fun b o q => Heap.get?_push_of_some _ q) rfl) (r.append (.cons rfl .nil))
      (by rw [List.length_append, List.length_append, hl1] <;> rfl) ⟨_, _, hn0, rfl, rfl⟩
    rw [List.zip_append hl1'.symm] at z
    exact z
  · subst ex eH
    exact hbody A outer s2 _ _ Q E hr' (hq p o hp)
end
theorem Fun.okKw {P : Program} {w : World} {K : PySem.W.Frag} {mg : Str → Option Value} {base : Heap} {x qual : Str} {st : Stmt} {f : Addr} {fd : FuncData} {N ps : List Str} {pd : Str} {k : Nat} {sp : Sp} (KSS : List (List Str)) (F : Fun K x qual st f fd) (S : FnScope N (ps ++ [pd]) (defScope st)) (hk : ∀ ks ∈ KSS, ks.Nodup ∧ ks.length ≤ sizeLine)
    (hb : ∀ ks ∈ KSS, ∀ (kV doc pm : Value) (an : Option Addr) (cdv ct : Value) (us ws : List Value), us.length = ps.length → ws.length = ks.length → bindArgs (PySem.W.fnOf x qual (defArgs st) (defBody st) (defScope st) .none kV doc pm an cdv ct) ⟨us, ks.zip ws⟩ =
      ((alloc (PySem.W.dictOf [] 0) : Sem Addr) >>= fun D => (forIn (ks.zip ws) PUnit.unit fun x _ => (nsSet D x.1 x.2 >>= fun _ => pure (ForInStep.yield PUnit.unit))) >>= fun _ => pure (ps.zip us ++ [(pd, Value.ref D)])))
    (hbody : ∀ (cdv : Value) (A : Around) (outer : List Env) (s : Shared) (H : Hp) (vs : List V) (Q : VK) (E : XK), Room k (A.deeper (envOfC qual (defScope st) s.heap.objs.size f cdv)) → sp vs H Q E →
      ∃ t, PSs (cxOf (L2N.CX P w) P w K mg base N qual (defScope st) f cdv A outer s H E) (defBody st) t ∧ t { nx := fun _ H' => Q .non H', rt := Q } (start N vs) H) : ∀ ks ∈ KSS, FnKw P w K mg base (k + 1) f ps.length ks sp := by
  obtain ⟨oc, od, kV, doc, pm, an, cdv, ct, osl, rfl, lk, hcd⟩ := F.ex
  intro ks hm
  exact fn_kw (hk ks hm).1 (hk ks hm).2 lk hcd S (fun us ws => hb ks hm kV doc pm an cdv ct us ws) fun A outer s H vs Q E hr hsp => hbody cdv A outer s H vs Q E hr hsp
/-- the class at C has the static method m, with **kw -/
structure Sk (P : Program) (w : World) (K : PySem.W.Frag) (mg : Str → Option Value) (base : Heap) (C : Addr) (m : Str) (k n : Nat) (KSS : List (List Str)) (sp : Sp) : Prop where
  ex : ∃ f p mc rest, ClX.CRead K C mc ∧ PySem.W.findCls K (.ref C) mc m = some (.get (.builtin "staticmethod.__get__") (.ref p) .none (.ref C)) ∧ PySem.W.recIn K p "staticmethod" = some (.ref f :: rest) ∧ PySem.W.keepIn K (.ref f) = true ∧ ∀ ks ∈ KSS, FnKw P w K mg base k f n ks sp
def rCls (C : Addr) (x : V) (P : Prop) : Prop := x = .ref C ∧ P
def rSk (n : Nat) (ks : List Str) (sp : Sp) (E : XK) (vs zs : List V) (H : Hp) (Q : VK) : Prop := vs.length = n ∧ zs.length = ks.length ∧ ∀ d o, H d = Option.none → sp (vs ++ [V.ref d]) (upd H d (.frz o (.dK (kwD ks zs)))) Q E
def tSk (C : Addr) (n : Nat) (ks : List Str) (sp : Sp) (E : L2.St → XK) (ta : TE) (t tk : TA) : TE := fun σ H Q => ta σ H fun x H1 => rCls C x (t σ H1 fun vs H2 => tk σ H2 fun zs H3 => rSk n ks sp (E σ) vs zs H3 Q)
section
variable {X : Cx} {k n : Nat} {C : Addr} {sp : Sp} {E : L2.St → XK} {m : Str} {KSS : List (List Str)} {ks : List Str} {o e : Expr} {es : List Expr} {kws : List Keyword} {pos apos : Pos} {ta : TE} {t tk : TA} {pl : Sem Bool}
theorem pe_sk (F : Sk X.prog X.w X.K X.mg X.base C m k n KSS sp) (hr : Room k X.A) (hx : Ps X E) (he : PE X o ta) (ha : PA X (e :: es) t) (hkw : PK X kws tk) (hin : ks ∈ KSS) (hall : (backToKw pos (keywordEach kws X.env)).all (·.1.isSome) = true := by rfl) (hks : (backToKw pos (keywordEach kws X.env)).filterMap (·.1) = ks := by rfl)
    (hst : starEach (e :: es) X.env = (false, eval e X.env) :: starEach es X.env := by rfl)
    (hpl : ((backTo pos (starEach (e :: es) X.env)).any (·.1) || (backToKw pos (keywordEach kws X.env)).any (·.1.isNone)) = false := by rfl)
    (ht : eval (.Call (.Attribute o m apos) (e :: es) kws pos) X.env = (do
      let ov ← eval o X.env
      standAt apos.atName
      let (f, first) ← holding [ov] (getMethod ov m pl)
      callWith pos f first (backTo pos (starEach (e :: es) X.env)) (backToKw pos (keywordEach kws X.env))) := by rfl) :
    PE X (.Call (.Attribute o m apos) (e :: es) kws pos) (tSk C n ks sp E ta t tk) := by
  obtain ⟨f, p, mc, rest, rd, hf, hp, hk, F⟩ := F.ex
  refine ⟨fun pins s σ H Q I h => ?_⟩
  refine PySem.W.methodCall_KW (pl := pl) (thn (he.run pins s σ H _ I h) fun u s1 ⟨x, H1, I1, rx, ex, q⟩ => ?_) ht
  subst ex
  obtain rfl : u = Value.ref C := rx
  refine PySem.W.method_cls I1.kIn rd.ga (PySem.W.cls_bind I1.kIn rd.rd hf (wpAny_call (PySem.W.sm_get (s := { s1 with toks := s1.toks + 1 }) I1.kIn hp (PySem.W.handed_on rfl ?_))))
  have I1' : L2.Inv X pins σ H1 { s1 with toks := s1.toks + 1 } := I1.tok _
  refine PySem.W.callWith_KW (first := []) (h₀ := X.base) I1.ok.mod.kin hk hall (thn (ha.run pos pins _ σ H1 _ I1' q) fun us s2 ⟨vs, H2, I2, r, q⟩ => ?_) hpl hst
  refine thn (hkw.run pos pins s2 σ H2 _ I2 q) fun ws s3 ⟨zs, H3, I3, rz, l1, l2, q2⟩ => ⟨I3.kIn, ?_⟩
  rw [hks]
  refine wpAny_call (codeAny_mono (F ks hin X.A X.stack s3 H3 us ws vs zs Q (E σ) hr I3.env0 r rz l1 l2 q2) fun r s' hq => ?_)
  cases r with
  | error e => exact hx σ pins H3 s3 e s' I3 hq
  | ok fl =>
    cases fl with
    | ret u => exact I3.after hq
    | next => exact False.elim hq
    | brk => exact False.elim hq
    | cont => exact False.elim hq
end
/-! ### classmethods, constants of a class -/
/-- the class at C has the classmethod m -/
structure Cm (P : Program) (w : World) (K : PySem.W.Frag) (mg : Str → Option Value) (base : Heap) (C : Addr) (m : Str) (k : Nat) (ps : List Str) (sp : Sp) : Prop where
  ex : ∃ f fd p mc, FnOk P w K mg base (L2N.CX P w) k f fd ps sp ∧ L2.Binds K fd ps [] ∧ ClX.CRead K C mc ∧ ClX.CMet K C mc m p f
def tCmS (C : Addr) (sp : Sp) (E : L2.St → XK) (ta : TE) (t : TA) : TE := fun σ H Q => ta σ H fun x H1 => rCls C x (t σ H1 fun vs H2 => sp (.ref C :: vs) H2 Q (E σ))
section
variable {X : Cx} {k : Nat} {C : Addr} {ps : List Str} {sp : Sp} {E : L2.St → XK} {m : Str} {o e : Expr} {es : List Expr} {pos apos : Pos} {ta : TE} {t : TA} {pl : Sem Bool}
theorem pe_cm (F : Cm X.prog X.w X.K X.mg X.base C m k ps sp) (hr : Room k X.A) (hx : Ps X E) (he : PE X o ta) (ha : PA X (e :: es) t)
    (hst : starEach (e :: es) X.env = (false, eval e X.env) :: starEach es X.env := by rfl) (hpl : (backTo pos (starEach es X.env)).any (·.1) = false := by rfl)
    (ht : eval (.Call (.Attribute o m apos) (e :: es) [] pos) X.env = (do
      let ov ← eval o X.env
      standAt apos.atName
      let (f, first) ← holding [ov] (getMethod ov m pl)
      callWith pos f first (backTo pos (starEach (e :: es) X.env)) (backToKw pos (keywordEach [] X.env))) := by rfl) :
    PE X (.Call (.Attribute o m apos) (e :: es) [] pos) (tCmS C sp E ta t) := by
  obtain ⟨f, fd, p, mc, F, hb, rd, c⟩ := F.ex
  refine ⟨fun pins s σ H Q I h => ?_⟩
  refine PySem.W.methodCall_KW (pl := pl) (thn (he.run pins s σ H _ I h) fun u s1 ⟨x, H1, I1, rx, ex, q⟩ => ?_) ht
  subst ex
  obtain rfl : u = Value.ref C := rx
  refine ClX.getmethcm_ok I1 rd c fun s2 I2 => ?_
  refine ClX.callwith_cm I2 (ClX.base_none I1 (Nat.le_refl _)) c.fi (thn (ha.run pos _ s2 σ H1 _ I2 q) fun us s3 ⟨vs, H2, I3, rv, q2⟩ => ⟨⟨ClX.pin_at I3, I3.kIn⟩, ?_⟩) hst hpl
  have r2 : Vals (.ref C :: vs) (.ref C :: us) := .cons rfl rv
  have hl : (Value.ref C :: us).length = ps.length := by rw [← r2.length]; exact F.len _ _ _ _ q2
  refine wpAny_call (PySem.W.method_call (ClX.pin_at I3) (codeAny_mono (F.run X.A X.stack s3 H2 ⟨.ref C :: us, []⟩ (.ref C :: us) (.ref C :: vs) Q (E σ) hr I3.env0 (by have := hb s3 (.ref C :: us) I3.kIn (by rw [List.append_nil]; exact hl); rw [List.append_nil] at this; exact this) r2 q2) fun r s' hq => ?_))
  cases r with
  | error e => exact hx σ _ H2 s3 e s' I3 hq
  | ok fl =>
    cases fl with
    | ret u => exact ClX.unpinE (I3.after hq)
    | next => exact False.elim hq
    | brk => exact False.elim hq
    | cont => exact False.elim hq
end
/-! ### C.x, a constant of the class, an object that the top has laid -/
theorem un1 {A : Around} (h : A.units + 64 < cLine) : A.units + 1 < cLine := by omega
/-! ### readings -/
def rKeys (x : V) (H : Hp) (R : It → Hp → Prop) : Prop := ∃ d o, x = .ref d ∧ ((∃ kvs, H d = some (.frz o (.dK kvs)) ∧ R (Itk d o kvs) H) ∨ ∃ kvs, H d = some (.frz o (.dT kvs)) ∧ R (Itkt d o kvs) H)
def rIsD (a : V) (H : Hp) (P : Addr → Prop) : Prop := ∃ d, a = .ref d ∧ IsD H d ∧ P d
def rGet2 (d : Addr) (y z : V) (H : Hp) (Q : VK) : Prop := ∃ o, DGet H d y o ∧ Q (o.getD z) H
section
variable {K : PySem.W.Frag} {σ : L2.St} {H : Hp} {Q : VK} {sp : Sp} {E : L2.St → XK} {C d : Addr} {ta td ty tx te : TE} {t tk : TA} {n : Nat} {ks : List Str} {P0 : Prop} {kvs : List (Key × V)} {o : Obj} {z : V} {x : Str}
instance i_sk : St1 (tSk C n ks sp E ta t tk σ H Q) (ta σ H fun x H1 => rCls C x (t σ H1 fun vs H2 => tk σ H2 fun zs H3 => rSk n ks sp (E σ) vs zs H3 Q)) := ⟨fun h => h⟩
instance i_rcls : St1 (rCls C (.ref C) P0) P0 := ⟨fun h => ⟨rfl, h⟩⟩
instance i_cmS : St1 (tCmS C sp E ta t σ H Q) (ta σ H fun x H1 => rCls C x (t σ H1 fun vs H2 => sp (.ref C :: vs) H2 Q (E σ))) := ⟨fun h => h⟩
theorem v_sk {vs zs : List V} {E : XK} (h1 : vs.length = n) (h2 : zs.length = ks.length) (h : ∀ d o H2, H d = Option.none → Ext H H2 → H2 d = some (.frz o (.dK (kwD ks zs))) → sp (vs ++ [V.ref d]) H2 Q E) : rSk n ks sp E vs zs H Q :=
  ⟨h1, h2, fun d o hd => h d o _ hd (Ext.new hd) upd_same⟩
instance i_keys {R : It → Hp → Prop} : St1 (iKeys te σ H R) (te σ H fun x H1 => rKeys x H1 R) := ⟨fun h => h⟩
theorem v_keys {R : It → Hp → Prop} (hd : H d = some (.frz o (.dK kvs))) (q : R (Itk d o kvs) H) : rKeys (.ref d) H R := ⟨d, o, rfl, .inl ⟨kvs, hd, q⟩⟩
instance i_dget2 : St1 (tDGet2 td ty tx σ H Q) (td σ H fun x H1 => rIsD x H1 fun a => ty σ H1 fun y H2 => tx σ H2 fun z H3 => rGet2 a y z H3 Q) := ⟨fun h => h⟩
theorem v_isD {P : Addr → Prop} (hd : H d = some (.frz o (.dK kvs))) (q : P d) : rIsD (.ref d) H P := ⟨d, rfl, .inl ⟨kvs, .inr ⟨o, hd⟩⟩, q⟩
theorem v_get2 (hd : H d = some (.frz o (.dK kvs))) (q : Q ((valV kvs (.inr x : Key)).getD z) H) : rGet2 d (.str x) z H Q := ⟨_, .inl ⟨kvs, .inr x, .inr ⟨o, hd⟩, rfl, rfl⟩, q⟩
end
end GG

/-! GE: for i, c in enumerate(text). -/
namespace GG
open PySem PySem.Spec L2 PyProof.Rows
/-- a text's signs, each in a new pair with its place -/
def Itx (z : Str) : It :=
  ⟨fun i _ => i < z.cps.size, fun i H v H' => ∃ T c, v = .ref T ∧ H T = none ∧ z.cps[i]? = some c ∧ H' = upd H T (.tup [.int (i : Nat), .str ⟨#[c]⟩]), fun i _ => i = z.cps.size⟩
theorem turn_enumS {P : Program} {w : World} {K : PySem.W.Frag} {elts : List Expr} {kk : Nat} {tpos : Pos} (z : Str) (t : Tok) (e it : Addr) :
    Turn P w K (.Tuple elts kk tpos) (Itx z) [e, it] e (fun i h => (∃ old, IsEnum h e it ((i : Nat) : Int) old) ∧ h.IsStrIter it (strIterType z) z t i ∧ e ≠ it) where
  mem := by simp
  obj := fun i h st b hb => by
    obtain ⟨⟨old, he⟩, ⟨ob, g1, g2, g3⟩, _⟩ := st
    rcases (show b = e ∨ b = it by simpa using hb) with y | y
    · rw [y]; exact ⟨_, he, fun v q => nomatch q⟩
    · rw [y]; exact ⟨ob, g1, fun v q => by rw [g3] at q; cases q⟩
  keep := fun i h h' st k => let ⟨⟨old, he⟩, ⟨ob, g1, g2⟩, hne⟩ := st; ⟨⟨old, k e (by simp) _ he⟩, ⟨ob, k it (by simp) _ g1, g2⟩, hne⟩
  item := by
    intro X hP hw hK hc i pins s σ H E I hf st hg
    subst hP hw hK
    obtain ⟨⟨old, he⟩, hit, hne⟩ := st
    have hel : e < s.heap.objs.size := Heap.lt_size he
    have hil : it < s.heap.objs.size := by obtain ⟨_, q, _⟩ := hit; exact Heap.lt_size q
    have D := Draws.text (prog := X.prog) (w := X.w) (A := X.A.in1) (I.ok.hd hc) it z t
    refine wpAny_pyNext_enum_itemD D he hit hg hne (by simpa using hne) fun x h' tk px ho hit' hT hsz hk => ?_
    obtain ⟨ch, tu, hch, rfl⟩ := px
    refine ⟨_, rfl, wpAny_letOwnedTupleGo_enum (s := { s with heap := h', toks := tk + 1 }) ho fun h'' he' sb => ?_⟩
    have hT2 : h''.get? s.heap.objs.size = some { cls := .type "tuple", data := .seq #[.int i tk, .str ⟨#[ch]⟩ tu] } := (sb.2 _ (Nat.ne_of_gt hel)).trans hT
    have new : ObjOk X.prog X.w (upd H s.heap.objs.size (.tup [.int (i : Nat), .str ⟨#[ch]⟩])) h'' s.heap.objs.size (.tup [.int (i : Nat), .str ⟨#[ch]⟩]) :=
      ⟨by show 2 ≤ sizeLine; decide, [.int i tk, .str ⟨#[ch]⟩ tu], .cons ⟨_, rfl⟩ (.cons ⟨_, rfl⟩ .nil), ⟨_, hT2, rfl, _, rfl⟩⟩
    have I1 : L2.Inv X pins σ (upd H s.heap.objs.size (.tup [.int (i : Nat), .str ⟨#[ch]⟩])) { s with heap := h'', toks := tk + 1 } :=
      I.turnedNew (ch := [e, it]) (fun b ob hb q => (sb.2 b (fun y => hb (by simp [y]))).trans (hk b ob (fun y => hb (by simp [y])) (fun y => hb (by simp [y])) q)) hf (Nat.le_refl _) new
    refine ⟨.ref s.heap.objs.size, _, I1, rfl, ⟨_, ch, rfl, I.hok.fresh (Nat.le_refl _), hch, rfl⟩, ⟨⟨.str ⟨#[ch]⟩ tu, ?_⟩, (let ⟨ob, g1, g2⟩ := hit'; ⟨ob, (sb.2 it (Ne.symm hne)).trans g1, g2⟩), hne⟩, fun b hb => ?_⟩
    · rw [show ((i + 1 : Nat) : Int) = (i : Int) + 1 by omega]; exact he'
    · have hb' : b < s.heap.objs.size := by
        rcases (show b = e ∨ b = it by simpa using hb) with y | y
        · rw [y]; exact hel
        · rw [y]; exact hil
      rw [upd_ne (Nat.ne_of_lt hb')]
      exact (hf b hb).1
  done := by
    intro X hP hw hK hc i pins s σ H E I hf st hg
    subst hP hw hK
    obtain ⟨⟨old, he⟩, hit, hne⟩ := st
    obtain ⟨f0, f1, f2, f3, f4, f5⟩ := hf it (by simp)
    have hg' : i = z.cps.size := hg
    subst hg'
    have D := Draws.text (prog := X.prog) (w := X.w) (A := X.A.in1) (I.ok.hd hc) it z t
    exact wpAny_pyNext_enum_endD D he hit fun h' eb => ⟨rfl, I.turned (t' := s.toks) (fun b o hb q => eb b o hb q) f0 f1 f3 f4 f5⟩
  self := fun A i s Q E st h => let ⟨⟨_, he⟩, _⟩ := st; wpAny_pyIter_enum he h
def iEnumS (ta : TA) : TI := fun σ H R => ta σ H fun vs H1 => ∃ z, vs = [.str z] ∧ R (Itx z) H1
theorem pi_enumS {X : Cx} {e : Expr} {ta : TA} {p pos tpos : Pos} {elts : List Expr} {kk : Nat} (hg : Gl X "enumerate") (hm : X.mg "enumerate" = none) (ha : PA X [e] ta) (hs : starEach [e] X.env = [(false, eval e X.env)] := by rfl) :
    PI X (.Tuple elts kk tpos) (.Call (.Name "enumerate" p) [e] [] pos) (iEnumS ta) := by
  refine ⟨fun pins s σ H R I h => ?_⟩
  refine Call_ (ld_blt I hg hm boot_enumerate (PyProof.Rows.callWith_type1 (thn (ha.run pos pins s σ H _ I h) fun us s1 ⟨vs, H1, I1, r1, q1⟩ => ?_) hs rfl))
  obtain ⟨z, ex, q⟩ := q1
  subst ex
  obtain ⟨u, rfl, ru⟩ := vals1 r1
  obtain ⟨t, rfl⟩ := (show ∃ t, u = Value.str z t from ru)
  refine call_enumerate_str fun h' he hit hsz hk => wpAny_pyIter_enum he ?_
  have I2 : L2.Inv X pins σ H1 { s1 with heap := h' } := I1.kept (t' := s1.toks) hk
  refine ⟨s1.heap.objs.size + 1, [s1.heap.objs.size + 1, s1.heap.objs.size], _, _, H1, rfl, I2, turn_enumS z t (s1.heap.objs.size + 1) s1.heap.objs.size, ⟨⟨.none, he⟩, hit, Nat.succ_ne_self _⟩, fun b hb => ?_, q⟩
  have hle : s1.heap.objs.size ≤ b := by
    rcases (show b = s1.heap.objs.size + 1 ∨ b = s1.heap.objs.size by simpa using hb) with y | y
    · rw [y]; exact Nat.le_add_right _ _
    · rw [y]; exact Nat.le_refl _
  exact I1.fpOk hle (I1.hok.fresh hle)
theorem walk_enumS {z : Str} : Walk (Itx z) z.cps.size (fun _ => True) (fun i H v H' => ∃ T c, v = .ref T ∧ H T = none ∧ z.cps[i]? = some c ∧ H' = upd H T (.tup [.int (i : Nat), .str ⟨#[c]⟩])) :=
  ⟨fun _ _ hi _ => hi, fun _ _ => rfl, fun _ _ _ _ _ _ y => y⟩
def rEnS (vs : List V) (H : Hp) (R : It → Hp → Prop) : Prop := ∃ z, vs = [.str z] ∧ R (Itx z) H
instance i_enumS {ta : TA} {σ : L2.St} {H : Hp} {R : It → Hp → Prop} : St1 (iEnumS ta σ H R) (ta σ H fun vs H1 => rEnS vs H1 R) := ⟨fun h => h⟩
instance j_enumS {z : Str} {H : Hp} {R : It → Hp → Prop} : St1 (rEnS [.str z] H R) (R (Itx z) H) := ⟨fun h => ⟨z, rfl, h⟩⟩
end GG

/-! GN: notes, their texts, the reader as a machine (pure). -/
namespace GN
open PySem PySem.NumText
/-! ### the digits of a number -/
def dig (m : Nat) : List Nat := (Nat.toDigits 10 m).map Char.toNat
def itx (i : Int) : List Nat := if i < 0 then 45 :: dig i.natAbs else dig i.natAbs
theorem dig_val (m : Nat) : digitsVal (dig m) = m := PySem.W.KIN.val_back m
theorem dig_all (m : Nat) : AllDigits (dig m) := by
  intro c hc
  obtain ⟨ch, hch, e⟩ := List.mem_map.mp hc
  have h := Nat.isDigit_of_mem_toDigits (b := 10) (by decide) (by decide) hch
  rw [← e]
  simp only [Char.isDigit, Bool.and_eq_true, decide_eq_true_eq] at h
  exact ⟨h.1, h.2⟩
theorem dig_small {m : Nat} (h : m < 10) : dig m = [48 + m] := by
  unfold dig
  rw [Nat.toDigits_of_lt_base h]
  have : ∀ d : Nat, d < 10 → (Nat.digitChar d).toNat = 48 + d := by decide
  show [(Nat.digitChar m).toNat] = _
  rw [this m h]
theorem dig_big {m : Nat} (h : 10 ≤ m) : dig m = dig (m / 10) ++ [48 + m % 10] := by
  have hm : m % 10 < 10 := Nat.mod_lt m (by decide)
  have t : Nat.toDigits 10 (m / 10) ++ Nat.toDigits 10 (m % 10) = Nat.toDigits 10 (10 * (m / 10) + m % 10) := Nat.toDigits_append_toDigits (by decide) (by omega) hm
  rw [Nat.div_add_mod] at t
  have e2 := dig_small hm
  unfold dig at *
  rw [← t, List.map_append, e2]
theorem dig_head : ∀ (m : Nat), 1 ≤ m → ∃ d ds, dig m = d :: ds ∧ 49 ≤ d ∧ d ≤ 57 := by
  intro m
  induction m using Nat.strongRecOn with
  | _ m ih =>
    intro h
    by_cases hm : m < 10
    · exact ⟨48 + m, [], dig_small hm, by omega, by omega⟩
    · obtain ⟨d, ds, e, h1, h2⟩ := ih (m / 10) (by omega) (by omega)
      exact ⟨d, ds ++ [48 + m % 10], by rw [dig_big (by omega), e]; rfl, h1, h2⟩
theorem dig_zero : dig 0 = [48] := dig_small (by decide)
theorem dig_len : ∀ (k m : Nat), m < 10 ^ k → 1 ≤ k → (dig m).length ≤ k := by
  intro k
  induction k with
  | zero => intro m _ h; exact absurd h (by decide)
  | succ k ih =>
    intro m h _
    by_cases hm : m < 10
    · rw [dig_small hm]; exact Nat.succ_le_succ (Nat.zero_le _)
    · rw [dig_big (by omega), List.length_append]
      have hk : 1 ≤ k := by
        cases k with
        | zero => simp at h; omega
        | succ k => omega
      have := ih (m / 10) (by rw [Nat.pow_succ] at h; omega) hk
      simp
      omega
/-! ### signs -/
def letter (c : Nat) : Bool := decide (97 ≤ c) && decide (c ≤ 122)
def digit (c : Nat) : Bool := decide (48 ≤ c) && decide (c ≤ 57)
def wordc (c : Nat) : Bool := letter c || digit c || c == 45 || c == 58
def firstc (c : Nat) : Bool := letter c || digit c || c == 45
/-! ### notes -/
inductive Nt where
  | non | wd (l : List Nat) | int (i : Int) | tup (xs : List Nt)
def joinL (S : List Nat) : List (List Nat) → List Nat
  | [] => []
  | [p] => p
  | p :: q :: r => p ++ (S ++ joinL S (q :: r))
mutual
def wr : Nt → List Nat
  | .non => [45]
  | .wd l => l
  | .int i => itx i
  | .tup xs => 40 :: (joinL [32] (wrs xs) ++ [41])
def wrs : List Nt → List (List Nat)
  | [] => []
  | x :: xs => wr x :: wrs xs
end
mutual
def depth : Nt → Nat
  | .tup xs => depths xs + 1
  | .non | .wd _ | .int _ => 0
def depths : List Nt → Nat
  | [] => 0
  | x :: xs => max (depth x) (depths xs)
end
def Word (l : List Nat) : Prop := ∃ c cs, l = c :: cs ∧ letter c = true ∧ (∀ d ∈ cs, wordc d = true) ∧ l.length ≤ 24
mutual
def Ok : Nt → Prop
  | .non => True
  | .wd l => Word l
  | .int i => i.natAbs < 10 ^ 200
  | .tup xs => Oks xs
def Oks : List Nt → Prop
  | [] => True
  | x :: xs => Ok x ∧ Oks xs
end
/-! ### the reader -/
inductive La where
  | start | token | item | space | bracket
deriving DecidableEq
structure Rd where
  cur : List Nt
  out : List (List Nt)
  tok : List Nat
  last : La
def bare (t : List Nat) : List Nat := match t with
  | 45 :: ds => ds
  | ds => ds
def goes (t : List Nat) (c : Nat) : Bool := if letter (t.headD 0) then wordc c && decide (t.length < 24) else if t = [45] then digit c && !decide (c = 48) else if t = [48] then false else digit c && decide ((bare t).length < 200)
def tval (t : List Nat) : Int := match t with
  | 45 :: ds => -((digitsVal ds : Nat) : Int)
  | ds => ((digitsVal ds : Nat) : Int)
def tnote (t : List Nat) : Nt := if t = [45] then .non else if letter (t.headD 0) then .wd t else .int (tval t)
def close (s : Rd) : Rd := match s.out with
  | [] => { s with cur := [.tup s.cur], out := [], last := .item }
  | r :: rs => { s with cur := r ++ [.tup s.cur], out := rs, last := .item }
def flush (s : Rd) : Rd := if s.last = .token then { s with cur := s.cur ++ [tnote s.tok] } else s
def open_ (l : La) : Bool := decide (l = .start) || decide (l = .bracket) || decide (l = .space)
def step (s : Rd) (c : Nat) : Option Rd :=
  if s.last = .token ∧ goes s.tok c = true then some { s with tok := s.tok ++ [c] }
  else if (s.last = .token ∨ s.last = .item) ∧ s.out ≠ [] ∧ (c = 32 ∨ c = 41) then
    some (if c = 41 then close (flush s) else { flush s with last := .space })
  else if s.last = .bracket ∧ c = 41 then some (close s)
  else if open_ s.last = true ∧ c = 40 ∧ s.out.length + 1 ≤ 100 then some { s with cur := [], out := s.cur :: s.out, last := .bracket }
  else if open_ s.last = true ∧ firstc c = true then some { s with tok := [c], last := .token }
  else none
def run (s : Rd) : List Nat → Option Rd
  | [] => some s
  | c :: cs => (step s c).bind fun s' => run s' cs
theorem run_append (s : Rd) (xs ys : List Nat) : run s (xs ++ ys) = (run s xs).bind fun s' => run s' ys := by
  induction xs generalizing s with
  | nil => rfl
  | cons c cs ih =>
    show (step s c).bind (fun s' => run s' (cs ++ ys)) = ((step s c).bind fun s' => run s' cs).bind _
    cases h : step s c with
    | none => rfl
    | some s' => exact ih s'
/-! ### a token -/
theorem run_go {s : Rd} (hl : s.last = .token) : ∀ (cs : List Nat), (∀ a b, cs = a ++ b → b ≠ [] → goes (s.tok ++ a) (b.headD 0) = true) → run s cs = some { s with tok := s.tok ++ cs } := by
  intro cs
  induction cs generalizing s with
  | nil => intro _; simp [run]
  | cons c cs ih =>
    intro h
    have h0 := h [] (c :: cs) rfl (by simp)
    rw [List.append_nil] at h0
    have e : step s c = some { s with tok := s.tok ++ [c] } := by
      unfold step
      rw [if_pos ⟨hl, h0⟩]
    show (step s c).bind _ = _
    rw [e]
    show run _ cs = _
    rw [ih (s := { s with tok := s.tok ++ [c] }) hl (fun a b hab hb => by
      have := h (c :: a) b (by rw [hab]; rfl) hb
      show goes (s.tok ++ [c] ++ a) _ = true
      rw [List.append_assoc]
      exact this)]
    simp
theorem step_first {s : Rd} {c : Nat} (ho : open_ s.last = true) (hc : firstc c = true) : step s c = some { s with tok := [c], last := .token } := by
  have n1 : ¬ s.last = .token := fun z => by rw [z] at ho; exact absurd ho (by decide)
  have n2 : ¬ s.last = .item := fun z => by rw [z] at ho; exact absurd ho (by decide)
  have n3 : ¬ c = 41 := fun z => by rw [z] at hc; exact absurd hc (by decide)
  have n4 : ¬ c = 40 := fun z => by rw [z] at hc; exact absurd hc (by decide)
  unfold step
  rw [if_neg (fun z => n1 z.1), if_neg (fun z => z.1.elim n1 n2), if_neg (fun z => n3 z.2), if_neg (fun z => n4 z.2.1), if_pos ⟨ho, hc⟩]
/-- the texts of items as tokens -/
structure Tok (t : List Nat) (n : Nt) : Prop where
  ne : ∃ c cs, t = c :: cs ∧ firstc c = true ∧ ∀ a b, cs = a ++ b → b ≠ [] → goes ([c] ++ a) (b.headD 0) = true
  note : tnote t = n
  stop : goes t 32 = false ∧ goes t 41 = false
theorem goes_stop (t : List Nat) : goes t 32 = false ∧ goes t 41 = false := by
  constructor
  · unfold goes
    split
    · rfl
    · split
      · rfl
      · split
        · rfl
        · rfl
  · unfold goes
    split
    · rfl
    · split
      · rfl
      · split
        · rfl
        · rfl
theorem letter_first {c : Nat} (h : letter c = true) : firstc c = true := by unfold firstc; rw [h]; rfl
theorem digit_first {c : Nat} (h : digit c = true) : firstc c = true := by unfold firstc; rw [h]; simp
theorem digit_not_letter {c : Nat} (h : digit c = true) : letter c = false := by
  unfold digit at h
  unfold letter
  simp at h ⊢
  omega
theorem split_headD {α : Type} {cs a b : List α} {d : α} (h : cs = a ++ b) (hb : b ≠ []) : b.headD d ∈ cs ∧ a.length < cs.length := by
  cases b with
  | nil => exact absurd rfl hb
  | cons x b => subst h; simp
theorem tok_word {l : List Nat} (h : Word l) : Tok l (.wd l) := by
  obtain ⟨c, cs, rfl, hc, hw, hl⟩ := h
  refine ⟨⟨c, cs, rfl, letter_first hc, fun a b hab hb => ?_⟩, ?_, goes_stop _⟩
  · obtain ⟨h1, h2⟩ := split_headD (d := 0) hab hb
    unfold goes
    rw [if_pos (show letter (([c] ++ a).headD 0) = true from hc), hw _ h1]
    simp at hl ⊢
    omega
  · unfold tnote
    rw [if_neg (fun z => by injection z with z _; rw [z] at hc; exact absurd hc (by decide)), if_pos (show letter ((c :: cs).headD 0) = true from hc)]
theorem tok_non : Tok [45] .non := ⟨⟨45, [], rfl, rfl, fun a b hab hb => by
    cases a with
    | nil => exact absurd hab.symm hb
    | cons _ _ => simp at hab⟩, rfl, goes_stop _⟩
theorem all_digit {cs : List Nat} (h : AllDigits cs) {c : Nat} (hc : c ∈ cs) : digit c = true := by
  have := h c hc
  unfold digit
  simp
  omega
theorem tok_nat {m : Nat} (h : m < 10 ^ 200) : Tok (dig m) (.int m) := by
  by_cases h0 : m = 0
  · subst h0
    rw [dig_zero]
    refine ⟨⟨48, [], rfl, rfl, fun a b hab hb => ?_⟩, rfl, goes_stop _⟩
    cases a with
    | nil => exact absurd hab.symm hb
    | cons _ _ => simp at hab
  · obtain ⟨d, ds, e, h1, h2⟩ := dig_head m (by omega)
    have hl := dig_len 200 m h (by decide)
    have ha := dig_all m
    have hv := dig_val m
    rw [e] at hl ha hv ⊢
    have hd : digit d = true := by unfold digit; simp; omega
    have nl := digit_not_letter hd
    refine ⟨⟨d, ds, rfl, digit_first hd, fun a b hab hb => ?_⟩, ?_, goes_stop _⟩
    · obtain ⟨m1, m2⟩ := split_headD (d := 0) hab hb
      unfold goes
      rw [if_neg (by show ¬ letter d = true; rw [nl]; exact Bool.false_ne_true), if_neg (fun z => by simp at z; omega), if_neg (fun z => by simp at z; omega), all_digit ha (List.mem_cons_of_mem _ m1)]
      have hb' : bare ([d] ++ a) = d :: a := by
        unfold bare
        show (match d :: a with | 45 :: ds => ds | ds => ds) = _
        split
        · rename_i q; injection q with q _; omega
        · rfl
      rw [hb']
      simp at hl ⊢
      omega
    · unfold tnote
      rw [if_neg (fun z => by simp at z; omega), if_neg (by show ¬ letter d = true; rw [nl]; exact Bool.false_ne_true)]
      unfold tval
      split
      · rename_i q; injection q with q _; omega
      · rw [hv]
theorem tok_neg {m : Nat} (h : m < 10 ^ 200) (h0 : m ≠ 0) : Tok (45 :: dig m) (.int (-(m : Int))) := by
  obtain ⟨d, ds, e, h1, h2⟩ := dig_head m (by omega)
  have hl := dig_len 200 m h (by decide)
  have ha := dig_all m
  have hv := dig_val m
  refine ⟨⟨45, dig m, rfl, rfl, fun a b hab hb => ?_⟩, ?_, goes_stop _⟩
  · obtain ⟨m1, m2⟩ := split_headD (d := 0) hab hb
    have hdg := all_digit ha m1
    unfold goes
    rw [if_neg (by show ¬ letter 45 = true; decide)]
    cases a with
    | nil =>
      have hb' : b = d :: ds := by rw [← e, hab]; rfl
      rw [if_pos (show [45] ++ [] = [45] from rfl), hdg, hb']
      simp
      omega
    | cons x a =>
      rw [if_neg (fun z => by simp at z), if_neg (fun z => by simp at z), hdg]
      have hb' : bare ([45] ++ x :: a) = x :: a := rfl
      rw [hb']
      simp at m2 hl ⊢
      omega
  · unfold tnote
    rw [if_neg (fun z => by rw [e] at z; simp at z), if_neg (by show ¬ letter 45 = true; decide)]
    show Nt.int (-((digitsVal (dig m) : Nat) : Int)) = _
    rw [hv]
theorem tok_int {i : Int} (h : i.natAbs < 10 ^ 200) : Tok (itx i) (.int i) := by
  unfold itx
  by_cases hi : i < 0
  · rw [if_pos hi]
    have := tok_neg h (by omega)
    rwa [show -((i.natAbs : Nat) : Int) = i by omega] at this
  · rw [if_neg hi]
    have := tok_nat h
    rwa [show ((i.natAbs : Nat) : Int) = i by omega] at this
/-! ### what is read of a note's text -/
def AftL (s : Rd) (xs : List Nt) (s' : Rd) : Prop := (s'.last = .token ∨ s'.last = .item) ∧ s'.out = s.out ∧ (flush s').cur = s.cur ++ xs
theorem flush_out (s : Rd) : (flush s).out = s.out := by unfold flush; split <;> rfl
theorem step_close {s : Rd} (hl : s.last = .token ∨ s.last = .item) (ho : s.out ≠ []) : step s 41 = some (close (flush s)) := by
  unfold step
  rw [if_neg (fun z => by rw [(goes_stop s.tok).2] at z; exact absurd z.2 Bool.false_ne_true), if_pos ⟨hl, ho, .inr rfl⟩, if_pos rfl]
theorem step_space {s : Rd} (hl : s.last = .token ∨ s.last = .item) (ho : s.out ≠ []) : step s 32 = some { flush s with last := .space } := by
  unfold step
  rw [if_neg (fun z => by rw [(goes_stop s.tok).1] at z; exact absurd z.2 Bool.false_ne_true), if_pos ⟨hl, ho, .inl rfl⟩, if_neg (by decide)]
theorem step_open {s : Rd} (hl : open_ s.last = true) (ho : s.out.length + 1 ≤ 100) : step s 40 = some { s with cur := [], out := s.cur :: s.out, last := .bracket } := by
  have n1 : ¬ s.last = .token := fun z => by rw [z] at hl; exact absurd hl (by decide)
  have n2 : ¬ s.last = .item := fun z => by rw [z] at hl; exact absurd hl (by decide)
  unfold step
  rw [if_neg (fun z => n1 z.1), if_neg (fun z => z.1.elim n1 n2), if_neg (fun z => absurd z.2 (by decide)), if_pos ⟨hl, rfl, ho⟩]
theorem read_tok {t : List Nat} {n : Nt} (h : Tok t n) {s : Rd} (hl : open_ s.last = true) : ∃ s', run s t = some s' ∧ AftL s [n] s' := by
  obtain ⟨⟨c, cs, rfl, hc, hg⟩, hn, _⟩ := h
  have e := step_first hl hc
  refine ⟨{ s with tok := c :: cs, last := .token }, ?_, .inl rfl, rfl, ?_⟩
  · show (step s c).bind _ = _
    rw [e]
    show run _ cs = _
    rw [run_go (s := { s with tok := [c], last := .token }) rfl cs hg]
    rfl
  · unfold flush
    rw [if_pos rfl]
    show s.cur ++ [tnote (c :: cs)] = _
    rw [hn]
theorem aft_step {s s2 : Rd} {xs : List Nt} (h : AftL s xs s2) (ho : s.out ≠ []) : step s2 32 = some { flush s2 with last := .space } ∧ ({ flush s2 with last := .space } : Rd).cur = s.cur ++ xs ∧ ({ flush s2 with last := .space } : Rd).out = s.out := by
  obtain ⟨h1, h2, h3⟩ := h
  exact ⟨step_space h1 (by rw [h2]; exact ho), h3, by show (flush s2).out = _; rw [flush_out, h2]⟩
theorem run_cons {s s1 : Rd} {c : Nat} {cs : List Nat} (h : step s c = some s1) : run s (c :: cs) = run s1 cs := by
  show (step s c).bind _ = _
  rw [h]
  rfl
mutual
theorem read_nt : ∀ (n : Nt) (s : Rd), Ok n → open_ s.last = true → s.out.length + depth n ≤ 100 → ∃ s', run s (wr n) = some s' ∧ AftL s [n] s'
  | .non, s, _, hl, _ => read_tok tok_non hl
  | .wd l, s, h, hl, _ => read_tok (tok_word h) hl
  | .int i, s, h, hl, _ => read_tok (tok_int h) hl
  | .tup xs, s, h, hl, hd => by
    have hd' : s.out.length + (depths xs + 1) ≤ 100 := hd
    have e1 := step_open hl (by omega)
    show ∃ s', run s (40 :: (joinL [32] (wrs xs) ++ [41])) = some s' ∧ _
    rw [run_cons e1, run_append]
    obtain ⟨s2, r2, h2⟩ := read_list xs { s with cur := [], out := s.cur :: s.out, last := .bracket } h rfl (by simp) (by simp; omega)
    rw [r2]
    rcases h2 with ⟨rfl, h2⟩ | h2
    · subst h2
      have e3 : step { s with cur := [], out := s.cur :: s.out, last := .bracket } 41 = some { s with cur := s.cur ++ [.tup []], out := s.out, last := .item } := by
        unfold step
        rw [if_neg (fun z => nomatch z.1), if_neg (fun z => z.1.elim (fun q => nomatch q) (fun q => nomatch q)), if_pos ⟨rfl, rfl⟩]
        rfl
      exact ⟨_, run_cons e3, .inr rfl, rfl, rfl⟩
    · obtain ⟨a1, a2, a3⟩ := h2
      have e3 := step_close a1 (by rw [a2]; simp)
      have ho : (flush s2).out = s.cur :: s.out := by rw [flush_out, a2]
      have ec : close (flush s2) = { flush s2 with cur := s.cur ++ [.tup (flush s2).cur], out := s.out, last := .item } := by unfold close; rw [ho]
      refine ⟨_, run_cons e3, ?_⟩
      rw [ec]
      refine ⟨.inr rfl, rfl, ?_⟩
      unfold flush
      rw [if_neg (show ¬ La.item = La.token by decide)]
      show s.cur ++ [.tup (flush s2).cur] = _
      rw [a3]
      rfl
theorem read_list : ∀ (xs : List Nt) (s : Rd), Oks xs → open_ s.last = true → s.out ≠ [] → s.out.length + depths xs ≤ 100 → ∃ s', run s (joinL [32] (wrs xs)) = some s' ∧ ((xs = [] ∧ s' = s) ∨ AftL s xs s')
  | [], s, _, _, _, _ => ⟨s, rfl, .inl ⟨rfl, rfl⟩⟩
  | [x], s, h, hl, ho, hd => by
    have hd' : s.out.length + max (depth x) 0 ≤ 100 := hd
    obtain ⟨s1, r1, h1⟩ := read_nt x s h.1 hl (by omega)
    exact ⟨s1, r1, .inr h1⟩
  | x :: y :: r, s, h, hl, ho, hd => by
    have hd' : s.out.length + max (depth x) (depths (y :: r)) ≤ 100 := hd
    obtain ⟨s1, r1, h1⟩ := read_nt x s h.1 hl (by omega)
    obtain ⟨e2, c2, o2⟩ := aft_step h1 ho
    show ∃ s', run s (wr x ++ ([32] ++ joinL [32] (wrs (y :: r)))) = some s' ∧ _
    rw [run_append, r1]
    show ∃ s', run s1 (32 :: joinL [32] (wrs (y :: r))) = some s' ∧ _
    rw [run_cons e2]
    obtain ⟨s3, r3, h3⟩ := read_list (y :: r) { flush s1 with last := .space } h.2 rfl (by rw [o2]; exact ho) (by rw [o2]; omega)
    refine ⟨s3, r3, .inr ?_⟩
    rcases h3 with ⟨q, _⟩ | ⟨a1, a2, a3⟩
    · cases q
    · refine ⟨a1, by rw [a2, o2], ?_⟩
      rw [a3, c2]
      simp
end
def start : Rd := ⟨[], [], [], .start⟩
theorem read_all {n : Nt} (h : Ok n) (hd : depth n ≤ 100) : ∃ s, run start (wr n) = some s ∧ (flush s).cur = [n] ∧ s.out = [] := by
  obtain ⟨s, r, h1, h2, h3⟩ := read_nt n start h rfl (by show 0 + depth n ≤ 100; omega)
  exact ⟨s, r, h3, h2⟩
/-! ### what holds at each sign -/
def TokOk (t : List Nat) : Prop := ∃ c cs, t = c :: cs ∧ ((letter c = true ∧ t.length ≤ 24 ∧ ∀ d ∈ cs, wordc d = true) ∨ (c = 45 ∧ AllDigits cs ∧ cs.length ≤ 200) ∨ (digit c = true ∧ AllDigits cs ∧ t.length ≤ 200))
structure Inv (i : Nat) (s : Rd) : Prop where
  tok : s.last = .token → TokOk s.tok
  len : s.tok.length ≤ 201
  cur : s.cur.length ≤ i
  rows : ∀ r ∈ s.out, r.length ≤ i
  dep : s.out.length ≤ 100
  br : s.last = .bracket → s.out ≠ []
theorem inv_start : Inv 0 start := ⟨fun z => (nomatch z), by decide, by decide, fun r hr => (nomatch hr), by decide, fun z => (nomatch z)⟩
theorem TokOk.len {t : List Nat} (h : TokOk t) : t.length ≤ 201 := by
  obtain ⟨c, cs, rfl, h | h | h⟩ := h
  · have := h.2.1; omega
  · have := h.2.2; simp; omega
  · have := h.2.2; omega
theorem digit_all {c : Nat} (h : digit c = true) : 48 ≤ c ∧ c ≤ 57 := by
  unfold digit at h
  simp at h
  exact h
theorem tok_go {t : List Nat} {c : Nat} (h : TokOk t) (hg : goes t c = true) : TokOk (t ++ [c]) := by
  obtain ⟨d, ds, rfl, h⟩ := h
  refine ⟨d, ds ++ [c], rfl, ?_⟩
  unfold goes at hg
  rcases h with ⟨h1, h2, h3⟩ | ⟨rfl, h2, h3⟩ | ⟨h1, h2, h3⟩
  · rw [if_pos (show letter ((d :: ds).headD 0) = true from h1)] at hg
    simp at hg
    refine .inl ⟨h1, by simp at h2 ⊢; omega, fun e he => ?_⟩
    rcases List.mem_append.mp he with q | q
    · exact h3 e q
    · rw [List.mem_singleton.mp q]; exact hg.1
  · rw [if_neg (by show ¬ letter 45 = true; decide)] at hg
    refine .inr (.inl ⟨rfl, ?_, ?_⟩)
    · intro e he
      rcases List.mem_append.mp he with q | q
      · exact h2 e q
      · rw [List.mem_singleton.mp q]
        split at hg
        · simp at hg; exact digit_all hg.1
        · split at hg
          · cases hg
          · simp at hg; exact digit_all hg.1
    · split at hg
      · rename_i q; simp at q; rw [q]; simp
      · split at hg
        · cases hg
        · have hb : bare (45 :: ds) = ds := rfl
          rw [hb] at hg
          simp at hg ⊢
          omega
  · have nl := digit_not_letter h1
    have hd := digit_all h1
    rw [if_neg (by show ¬ letter d = true; rw [nl]; exact Bool.false_ne_true), if_neg (fun q => by injection q with q _; omega)] at hg
    split at hg
    · cases hg
    · have hb : bare (d :: ds) = d :: ds := by
        unfold bare
        split
        · rename_i q; injection q with q _; omega
        · rfl
      rw [hb] at hg
      simp at hg
      refine .inr (.inr ⟨h1, fun e he => ?_, by simp; omega⟩)
      rcases List.mem_append.mp he with q | q
      · exact h2 e q
      · rw [List.mem_singleton.mp q]; exact digit_all hg.1
theorem tok_one {c : Nat} (h : firstc c = true) : TokOk [c] := by
  refine ⟨c, [], rfl, ?_⟩
  unfold firstc at h
  simp at h
  rcases h with (h | h) | h
  · exact .inl ⟨h, by simp, fun d hd => nomatch hd⟩
  · exact .inr (.inr ⟨h, fun d hd => (nomatch hd), by simp⟩)
  · exact .inr (.inl ⟨h, fun d hd => (nomatch hd), by simp⟩)
theorem inv_close {i : Nat} {s : Rd} (h1 : s.tok.length ≤ 201) (h2 : ∀ r ∈ s.out, r.length ≤ i) (h3 : s.out.length ≤ 100) : Inv (i + 1) (close s) := by
  unfold close
  split
  · exact ⟨fun z => (nomatch z), h1, by simp, fun r hr => (nomatch hr), by simp, fun z => (nomatch z)⟩
  · rename_i r rs he
    rw [he] at h2 h3
    refine ⟨fun z => (nomatch z), h1, ?_, fun q hq => ?_, ?_, fun z => (nomatch z)⟩
    · have := h2 r (List.mem_cons_self ..)
      simp
      omega
    · have := h2 q (List.mem_cons_of_mem _ hq)
      omega
    · simp at h3
      show rs.length ≤ 100
      omega
theorem inv_step {i : Nat} {s s' : Rd} {c : Nat} (h : Inv i s) (hs : step s c = some s') : Inv (i + 1) s' := by
  have rows' : ∀ r ∈ s.out, r.length ≤ i + 1 := fun r hr => Nat.le_succ_of_le (h.rows r hr)
  have hc := h.cur
  have hf : (flush s).cur.length ≤ i + 1 ∧ (flush s).out = s.out ∧ (flush s).tok = s.tok := by
    unfold flush
    split
    · refine ⟨by simp; omega, rfl, rfl⟩
    · exact ⟨by omega, rfl, rfl⟩
  unfold step at hs
  split at hs
  · rename_i q
    cases hs
    have := tok_go (h.tok q.1) q.2
    exact ⟨fun _ => this, this.len, by show s.cur.length ≤ i + 1; omega, rows', h.dep, fun z => by rw [show s.last = .bracket from z] at q; exact nomatch q.1⟩
  · split at hs
    · split at hs
      · cases hs
        exact inv_close (by rw [hf.2.2]; exact h.len) (by rw [hf.2.1]; exact h.rows) (by rw [hf.2.1]; exact h.dep)
      · cases hs
        exact ⟨fun z => (nomatch z), by show (flush s).tok.length ≤ 201; rw [hf.2.2]; exact h.len, hf.1, by show ∀ r ∈ (flush s).out, _; rw [hf.2.1]; exact rows', by show (flush s).out.length ≤ 100; rw [hf.2.1]; exact h.dep, fun z => (nomatch z)⟩
    · split at hs
      · cases hs
        exact inv_close h.len h.rows h.dep
      · split at hs
        · rename_i q
          cases hs
          refine ⟨fun z => (nomatch z), h.len, by simp, fun r hr => ?_, by simp; omega, fun _ => by simp⟩
          rcases List.mem_cons.mp hr with rfl | hr
          · omega
          · exact rows' r hr
        · split at hs
          · rename_i q
            cases hs
            exact ⟨fun _ => tok_one q.2, by simp, by show s.cur.length ≤ i + 1; omega, rows', h.dep, fun z => (nomatch z)⟩
          · cases hs
theorem tok_int_text {t : List Nat} (h : TokOk t) (h1 : t ≠ [45]) (h2 : letter (t.headD 0) = false) : intText? ⟨t.toArray⟩ = some (tval t) := by
  obtain ⟨c, cs, rfl, h | ⟨rfl, h3, h4⟩ | ⟨h3, h4, h5⟩⟩ := h
  · rw [show letter ((c :: cs).headD 0) = letter c from rfl, h.1] at h2
    cases h2
  · exact intText_neg (x := ⟨(45 :: cs).toArray⟩) (by simp) h3 (fun z => h1 (by rw [z])) (by show (45 :: cs).toArray.size ≤ 4300; simp; omega)
  · have hd := digit_all h3
    have e := intText_digits (x := ⟨(c :: cs).toArray⟩) (by
      intro d hd'
      simp at hd'
      rcases hd' with rfl | hd'
      · exact hd
      · exact h4 d hd') (by simp) (by show (c :: cs).toArray.size ≤ 4300; simp at h5 ⊢; omega)
    rw [e]
    unfold tval
    split
    · rename_i q; injection q with q _; omega
    · simp
end GN

/-! GK: what the reader has read is the text of what it holds (pure). -/
namespace GN
open PySem PySem.NumText
/-! ### numerals back -/
theorem val_snoc (cs : List Nat) (c : Nat) : digitsVal (cs ++ [c]) = digitsVal cs * 10 + (c - 48) := by
  unfold digitsVal
  rw [List.foldl_append]
  rfl
theorem snocInd {α : Type} {P : List α → Prop} (h0 : P []) (hs : ∀ l a, P l → P (l ++ [a])) (l : List α) : P l := by
  have h : ∀ l : List α, P l.reverse := by
    intro l
    induction l with
    | nil => exact h0
    | cons a l ih => rw [List.reverse_cons]; exact hs _ _ ih
  have := h l.reverse
  rwa [List.reverse_reverse] at this
theorem val_ge : ∀ (cs : List Nat) (d : Nat), 49 ≤ d → 1 ≤ digitsVal (d :: cs) := by
  refine snocInd (fun d h => ?_) fun cs c ih d h => ?_
  · show 1 ≤ 0 * 10 + (d - 48); omega
  · have := ih d h
    rw [← List.cons_append, val_snoc]
    omega
theorem dig_back : ∀ (cs : List Nat) (d : Nat), 49 ≤ d → AllDigits (d :: cs) → dig (digitsVal (d :: cs)) = d :: cs := by
  refine snocInd (fun d h ha => ?_) fun cs c ih d h ha => ?_
  · have := ha d (by simp)
    have e : digitsVal [d] = d - 48 := by show 0 * 10 + (d - 48) = _; omega
    rw [e, dig_small (by omega)]
    simp
    omega
  · have hc := ha c (by simp)
    have ha' : AllDigits (d :: cs) := fun x hx => ha x (by simp at hx ⊢; rcases hx with h | h <;> simp [h])
    have h1 := val_ge cs d h
    rw [← List.cons_append, val_snoc, dig_big (by omega), show (digitsVal (d :: cs) * 10 + (c - 48)) / 10 = digitsVal (d :: cs) by omega, ih d h ha', show 48 + (digitsVal (d :: cs) * 10 + (c - 48)) % 10 = c by omega]
/-- a token as the reader lets it grow -/
def Can (t : List Nat) : Prop := t = [45] ∨ t = [48] ∨ (∃ c cs, t = c :: cs ∧ letter c = true) ∨ (∃ d ds, t = d :: ds ∧ 49 ≤ d ∧ AllDigits (d :: ds)) ∨ ∃ d ds, t = 45 :: d :: ds ∧ 49 ≤ d ∧ AllDigits (d :: ds)
theorem can_wr {t : List Nat} (h : Can t) : wr (tnote t) = t := by
  rcases h with rfl | rfl | ⟨c, cs, rfl, hc⟩ | ⟨d, ds, rfl, hd, ha⟩ | ⟨d, ds, rfl, hd, ha⟩
  · rfl
  · show itx (tval [48]) = [48]
    show itx 0 = [48]
    unfold itx
    rw [if_neg (by decide)]
    exact dig_zero
  · unfold tnote
    rw [if_neg (fun z => by injection z with z _; rw [z] at hc; exact absurd hc (by decide)), if_pos (show letter ((c :: cs).headD 0) = true from hc)]
    rfl
  · have hd2 := ha d (by simp)
    have nl : letter d = false := by unfold letter; simp; omega
    unfold tnote
    rw [if_neg (fun z => by injection z with z _; omega), if_neg (by show ¬ letter d = true; rw [nl]; exact Bool.false_ne_true)]
    have e : tval (d :: ds) = ((digitsVal (d :: ds) : Nat) : Int) := by
      unfold tval
      split
      · rename_i q; injection q with q _; omega
      · rfl
    rw [e]
    show itx _ = _
    unfold itx
    rw [if_neg (by omega), Int.natAbs_natCast, dig_back ds d hd ha]
  · have h1 := val_ge ds d hd
    unfold tnote
    rw [if_neg (fun z => by simp at z), if_neg (by show ¬ letter 45 = true; decide)]
    show itx (-((digitsVal (d :: ds) : Nat) : Int)) = _
    unfold itx
    rw [if_pos (by omega), Int.natAbs_neg, Int.natAbs_natCast, dig_back ds d hd ha]
theorem can_go {t : List Nat} {c : Nat} (h : Can t) (hg : goes t c = true) : Can (t ++ [c]) := by
  unfold goes at hg
  rcases h with rfl | rfl | ⟨d, cs, rfl, hc⟩ | ⟨d, ds, rfl, hd, ha⟩ | ⟨d, ds, rfl, hd, ha⟩
  · rw [if_neg (by decide), if_pos rfl] at hg
    simp at hg
    have := digit_all hg.1
    refine .inr (.inr (.inr (.inr ⟨c, [], rfl, by omega, fun x hx => ?_⟩)))
    rw [List.mem_singleton.mp hx]; exact this
  · rw [if_neg (by decide), if_neg (by decide), if_pos rfl] at hg
    cases hg
  · exact .inr (.inr (.inl ⟨d, cs ++ [c], rfl, hc⟩))
  · have hd2 := ha d (by simp)
    have nl : letter d = false := by unfold letter; simp; omega
    rw [if_neg (by show ¬ letter d = true; rw [nl]; exact Bool.false_ne_true), if_neg (fun z => by injection z with z _; omega), if_neg (fun z => by injection z with z _; omega)] at hg
    simp at hg
    have := digit_all hg.1
    refine .inr (.inr (.inr (.inl ⟨d, ds ++ [c], rfl, hd, fun x hx => ?_⟩)))
    rw [← List.cons_append] at hx
    rcases List.mem_append.mp hx with q | q
    · exact ha x q
    · rw [List.mem_singleton.mp q]; exact this
  · rw [if_neg (by show ¬ letter 45 = true; decide), if_neg (fun z => by simp at z), if_neg (fun z => by simp at z)] at hg
    simp at hg
    have := digit_all hg.1
    refine .inr (.inr (.inr (.inr ⟨d, ds ++ [c], rfl, hd, fun x hx => ?_⟩)))
    rw [← List.cons_append] at hx
    rcases List.mem_append.mp hx with q | q
    · exact ha x q
    · rw [List.mem_singleton.mp q]; exact this
theorem can_one {c : Nat} (h : firstc c = true) : Can [c] := by
  unfold firstc at h
  simp at h
  rcases h with (h | h) | h
  · exact .inr (.inr (.inl ⟨c, [], rfl, h⟩))
  · have := digit_all h
    by_cases h0 : c = 48
    · exact .inr (.inl (by rw [h0]))
    · exact .inr (.inr (.inr (.inl ⟨c, [], rfl, by omega, fun x hx => by rw [List.mem_singleton.mp hx]; exact this⟩)))
  · exact .inl (by rw [h])
theorem val_lt2 : ∀ (cs : List Nat) (a : Nat), AllDigits cs → cs.foldl (fun acc c => acc * 10 + (c - 48)) a < (a + 1) * 10 ^ cs.length
  | [], a, _ => by simp
  | d :: cs, a, h => by
    have hd := h d (List.mem_cons_self ..)
    have := val_lt2 cs (a * 10 + (d - 48)) (fun x hx => h x (List.mem_cons_of_mem _ hx))
    rw [List.foldl_cons, List.length_cons, Nat.pow_succ]
    refine Nat.lt_of_lt_of_le this ?_
    rw [Nat.mul_comm (10 ^ cs.length) 10, ← Nat.mul_assoc]
    exact Nat.mul_le_mul_right _ (by omega)
theorem digits_lt2 {cs : List Nat} (h : AllDigits cs) : digitsVal cs < 10 ^ cs.length := by
  have := val_lt2 cs 0 h
  unfold digitsVal
  simpa using this
theorem tok_ok {t : List Nat} (h : TokOk t) : Ok (tnote t) := by
  obtain ⟨c, cs, rfl, ⟨h1, h2, h3⟩ | ⟨rfl, h2, h3⟩ | ⟨h1, h2, h3⟩⟩ := h
  · unfold tnote
    rw [if_neg (fun z => by injection z with z _; rw [z] at h1; exact absurd h1 (by decide)), if_pos (show letter ((c :: cs).headD 0) = true from h1)]
    exact ⟨c, cs, rfl, h1, h3, h2⟩
  · unfold tnote
    split
    · trivial
    · rw [if_neg (by show ¬ letter 45 = true; decide)]
      show (tval (45 :: cs)).natAbs < 10 ^ 200
      show (-((digitsVal cs : Nat) : Int)).natAbs < 10 ^ 200
      rw [Int.natAbs_neg, Int.natAbs_natCast]
      exact Nat.lt_of_lt_of_le (digits_lt2 h2) (Nat.pow_le_pow_right (by decide) h3)
  · have nl := digit_not_letter h1
    have hd := digit_all h1
    unfold tnote
    rw [if_neg (fun z => by injection z with z _; omega), if_neg (by show ¬ letter c = true; rw [nl]; exact Bool.false_ne_true)]
    have e : tval (c :: cs) = ((digitsVal (c :: cs) : Nat) : Int) := by
      unfold tval
      split
      · rename_i q; injection q with q _; omega
      · rfl
    show (tval (c :: cs)).natAbs < 10 ^ 200
    rw [e, Int.natAbs_natCast]
    refine Nat.lt_of_lt_of_le (digits_lt2 (fun x hx => ?_)) (Nat.pow_le_pow_right (by decide) h3)
    rcases List.mem_cons.mp hx with rfl | hx
    · exact hd
    · exact h2 x hx
/-! ### what was read -/
/-- the items of a row, each with a space behind it -/
def sp (xs : List Nt) : List Nat := (xs.map fun x => wr x ++ [32]).flatten
/-- the rows around, the innermost first, each with its opening bracket behind it -/
def pre : List (List Nt) → List Nat
  | [] => []
  | r :: rs => pre rs ++ sp r ++ [40]
def body (s : Rd) : List Nat := match s.last with
  | .start => []
  | .bracket => []
  | .space => sp s.cur
  | .token => sp s.cur ++ s.tok
  | .item => joinL [32] (wrs s.cur)
def Deep : List (List Nt) → Prop
  | [] => True
  | r :: rs => depths r + rs.length ≤ 100 ∧ Deep rs
structure Rend (s : Rd) (l : List Nat) : Prop where
  txt : l = pre s.out ++ body s
  can : s.last = .token → Can s.tok
  bot : s.out = [] → s.last ≠ .item → s.cur = []
  one : s.out = [] → s.last = .item → ∃ n, s.cur = [n]
  sta : s.last = .start → s.out = []
  spa : s.last = .space → s.out ≠ []
  bra : s.last = .bracket → s.out ≠ [] ∧ s.cur = []
  ite : s.last = .item → s.cur ≠ []
  low : ∀ rs r, s.out = rs ++ [r] → r = []
  oks : Oks s.cur ∧ ∀ r ∈ s.out, Oks r
  dpc : depths s.cur + s.out.length ≤ 100
  dpo : Deep s.out
theorem rend_start : Rend start [] := ⟨rfl, fun z => (nomatch z), fun _ _ => rfl, fun _ z => (nomatch z), fun _ => rfl, fun z => (nomatch z), fun z => (nomatch z), fun z => (nomatch z), fun rs r h => (by simp [start] at h), ⟨trivial, fun r hr => (nomatch hr)⟩, by decide, trivial⟩
theorem wrs_app2 : ∀ (xs ys : List Nt), wrs (xs ++ ys) = wrs xs ++ wrs ys
  | [], _ => rfl
  | x :: xs, ys => by show wr x :: wrs (xs ++ ys) = wr x :: (wrs xs ++ wrs ys); rw [wrs_app2]
theorem join_snoc : ∀ (xs : List Nt) (n : Nt), joinL [32] (wrs (xs ++ [n])) = sp xs ++ wr n
  | [], n => rfl
  | [x], n => by show wr x ++ ([32] ++ wr n) = (wr x ++ [32]) ++ [] ++ wr n; simp
  | x :: y :: r, n => by
    have ih := join_snoc (y :: r) n
    show wr x ++ ([32] ++ joinL [32] (wrs (y :: r ++ [n]))) = sp (x :: y :: r) ++ wr n
    rw [ih]
    unfold sp
    rw [List.map_cons, List.flatten_cons]
    simp
theorem sp_snoc (xs : List Nt) (n : Nt) : sp (xs ++ [n]) = sp xs ++ wr n ++ [32] := by
  unfold sp
  rw [List.map_append, List.flatten_append]
  simp
theorem sp_join {xs : List Nt} (h : xs ≠ []) : sp xs = joinL [32] (wrs xs) ++ [32] := by
  obtain ⟨ys, n, rfl⟩ : ∃ ys n, xs = ys ++ [n] := ⟨xs.dropLast, xs.getLast h, (List.dropLast_concat_getLast h).symm⟩
  rw [sp_snoc, join_snoc]
theorem oks_app2 : ∀ {xs ys : List Nt}, Oks xs → Oks ys → Oks (xs ++ ys)
  | [], ys, _, h => h
  | x :: xs, ys, h1, h2 => ⟨h1.1, oks_app2 h1.2 h2⟩
theorem depths_app2 : ∀ {xs ys : List Nt}, depths (xs ++ ys) = max (depths xs) (depths ys)
  | [], ys => by show depths ys = max 0 (depths ys); omega
  | x :: xs, ys => by show max (depth x) (depths (xs ++ ys)) = max (max (depth x) (depths xs)) (depths ys); rw [depths_app2]; omega
theorem tnote_depth (t : List Nat) : depth (tnote t) = 0 := by
  unfold tnote
  split
  · rfl
  · split <;> rfl
/-- a token or an item at the end of the row: the row's text -/
theorem rend_flush {s : Rd} {l : List Nat} {i : Nat} (h : Rend s l) (hi : Inv i s) (hl : s.last = .token ∨ s.last = .item) : l = pre s.out ++ joinL [32] (wrs (flush s).cur) ∧ (flush s).cur ≠ [] ∧ Oks (flush s).cur ∧ depths (flush s).cur + s.out.length ≤ 100 := by
  have hd := h.dpc
  rcases hl with hl | hl
  · have e : flush s = { s with cur := s.cur ++ [tnote s.tok] } := by unfold flush; rw [if_pos hl]
    rw [e]
    refine ⟨?_, by simp, oks_app2 h.oks.1 ⟨tok_ok (hi.tok hl), trivial⟩, ?_⟩
    · show l = pre s.out ++ joinL [32] (wrs (s.cur ++ [tnote s.tok]))
      rw [join_snoc, can_wr (h.can hl), h.txt]
      unfold body
      rw [hl]
    · show depths (s.cur ++ [tnote s.tok]) + _ ≤ 100
      rw [depths_app2, show depths [tnote s.tok] = max (depth (tnote s.tok)) 0 from rfl, tnote_depth]
      omega
  · have e : flush s = s := by unfold flush; rw [if_neg (by rw [hl]; decide)]
    rw [e]
    refine ⟨?_, h.ite hl, h.oks.1, hd⟩
    rw [h.txt]
    unfold body
    rw [hl]
theorem rend_open {s : Rd} {l : List Nat} (h : Rend s l) (hl : open_ s.last = true) : l = pre s.out ++ sp s.cur ∧ (s.out = [] → s.cur = []) := by
  have ht := h.txt
  unfold body at ht
  cases hla : s.last with
  | start =>
    rw [hla] at ht
    have h0 := h.bot (h.sta hla) (by rw [hla]; decide)
    exact ⟨by rw [h0]; exact ht, fun _ => h0⟩
  | bracket =>
    rw [hla] at ht
    have h0 := (h.bra hla).2
    exact ⟨by rw [h0]; exact ht, fun _ => h0⟩
  | space =>
    rw [hla] at ht
    exact ⟨ht, fun z => absurd z (h.spa hla)⟩
  | token => rw [hla] at hl; exact absurd hl (by decide)
  | item => rw [hla] at hl; exact absurd hl (by decide)
theorem rend_close {s : Rd} {l : List Nat} (ho : s.out ≠ []) (ht : l = pre s.out ++ joinL [32] (wrs s.cur)) (low : ∀ rs r, s.out = rs ++ [r] → r = []) (ok : Oks s.cur) (oko : ∀ r ∈ s.out, Oks r) (hd : depths s.cur + s.out.length ≤ 100) (hdo : Deep s.out) : Rend (close s) (l ++ [41]) := by
  obtain ⟨r, rs, he⟩ : ∃ r rs, s.out = r :: rs := by
    cases h : s.out with
    | nil => exact absurd h ho
    | cons r rs => exact ⟨r, rs, rfl⟩
  have ec : close s = { s with cur := r ++ [.tup s.cur], out := rs, last := .item } := by unfold close; rw [he]
  rw [he] at ht low oko hd hdo
  rw [ec]
  have r0 : rs = [] → r = [] := fun z => low [] r (by rw [z]; rfl)
  refine ⟨?_, fun z => (nomatch z), fun _ z => absurd rfl z, fun z _ => ⟨.tup s.cur, by show r ++ _ = _; rw [r0 z]; rfl⟩, fun z => (nomatch z), fun z => (nomatch z), fun z => (nomatch z), fun _ => by simp, fun rs' r' h => low (r :: rs') r' (by rw [show rs = rs' ++ [r'] from h]; rfl), ⟨oks_app2 (oko r (by simp)) ⟨ok, trivial⟩, fun x hx => oko x (by simp [show x ∈ rs from hx])⟩, ?_, hdo.2⟩
  · show l ++ [41] = pre rs ++ joinL [32] (wrs (r ++ [.tup s.cur]))
    rw [join_snoc, ht]
    show pre rs ++ sp r ++ [40] ++ joinL [32] (wrs s.cur) ++ [41] = pre rs ++ (sp r ++ (40 :: (joinL [32] (wrs s.cur) ++ [41])))
    simp
  · show depths (r ++ [.tup s.cur]) + rs.length ≤ 100
    rw [depths_app2, show depths [Nt.tup s.cur] = max (depths s.cur + 1) 0 from rfl]
    have h1 := hdo.1
    simp at hd
    omega
theorem rend_step {s s' : Rd} {c i : Nat} {l : List Nat} (h : Rend s l) (hi : Inv i s) (hs : step s c = some s') : Rend s' (l ++ [c]) := by
  unfold step at hs
  split at hs
  · rename_i q
    cases hs
    refine ⟨?_, fun _ => can_go (h.can q.1) q.2, h.bot, h.one, h.sta, h.spa, h.bra, h.ite, h.low, h.oks, h.dpc, h.dpo⟩
    have ht := h.txt
    unfold body at ht ⊢
    rw [q.1] at ht
    show l ++ [c] = pre s.out ++ (match s.last with | .start => [] | .bracket => [] | .space => sp s.cur | .token => sp s.cur ++ (s.tok ++ [c]) | .item => joinL [32] (wrs s.cur))
    rw [q.1, ht]
    simp
  · split at hs
    · rename_i q
      obtain ⟨h1, h2, h3, h4⟩ := rend_flush h hi q.1
      split at hs
      · rename_i e
        subst e
        cases hs
        exact rend_close (by rw [flush_out]; exact q.2.1) (by rw [flush_out]; exact h1) (by rw [flush_out]; exact h.low) h3 (by rw [flush_out]; exact h.oks.2) (by rw [flush_out]; exact h4) (by rw [flush_out]; exact h.dpo)
      · rename_i e
        have e32 : c = 32 := q.2.2.resolve_right e
        subst e32
        cases hs
        have fo : (flush s).out = s.out := flush_out s
        refine ⟨?_, fun z => (nomatch z), fun z _ => absurd (fo.symm.trans z) q.2.1, fun _ z => (nomatch z), fun z => (nomatch z), fun _ z => q.2.1 (fo.symm.trans z), fun z => (nomatch z), fun z => (nomatch z), fun rs r z => h.low rs r (fo.symm.trans z), ⟨h3, fun r hr => h.oks.2 r (by rw [← fo]; exact hr)⟩, ?_, ?_⟩
        · show l ++ [32] = pre (flush s).out ++ sp (flush s).cur
          rw [fo, sp_join h2, h1]
          simp
        · show depths (flush s).cur + (flush s).out.length ≤ 100
          rw [fo]; exact h4
        · show Deep (flush s).out
          rw [fo]; exact h.dpo
    · split at hs
      · rename_i q
        obtain ⟨e1, e2⟩ := q
        subst e2
        cases hs
        obtain ⟨b1, b2⟩ := h.bra e1
        refine rend_close b1 ?_ h.low h.oks.1 h.oks.2 h.dpc h.dpo
        rw [b2, h.txt]
        unfold body
        rw [e1]
        rfl
      · split at hs
        · rename_i q
          obtain ⟨e1, e2, e3⟩ := q
          subst e2
          cases hs
          obtain ⟨h1, h2⟩ := rend_open h e1
          refine ⟨?_, fun z => (nomatch z), fun z => (nomatch z), fun z => (nomatch z), fun z => (nomatch z), fun z => (nomatch z), fun _ => ⟨by simp, rfl⟩, fun z => (nomatch z), ?_, ⟨trivial, ?_⟩, ?_, ⟨h.dpc, h.dpo⟩⟩
          · show l ++ [40] = pre (s.cur :: s.out) ++ []
            rw [h1]
            show _ = pre s.out ++ sp s.cur ++ [40] ++ []
            simp
          · intro rs r z
            have z : s.cur :: s.out = rs ++ [r] := z
            cases rs with
            | nil =>
              injection z with z1 z2
              rw [← z1]; exact h2 z2
            | cons x rs =>
              injection z with z1 z2
              exact h.low rs r z2
          · intro r hr
            rcases List.mem_cons.mp hr with rfl | hr
            · exact h.oks.1
            · exact h.oks.2 r hr
          · show 0 + (s.cur :: s.out).length ≤ 100
            simp; omega
        · split at hs
          · rename_i q
            obtain ⟨e1, e2⟩ := q
            cases hs
            obtain ⟨h1, h2⟩ := rend_open h e1
            refine ⟨?_, fun _ => can_one e2, fun z _ => h2 z, fun _ z => (nomatch z), fun z => (nomatch z), fun z => (nomatch z), fun z => (nomatch z), fun z => (nomatch z), h.low, h.oks, h.dpc, h.dpo⟩
            show l ++ [c] = pre s.out ++ (sp s.cur ++ [c])
            rw [h1]
            simp
          · cases hs
theorem rend_run : ∀ (l l0 : List Nat) (s s' : Rd) (i : Nat), Rend s l0 → Inv i s → run s l = some s' → Rend s' (l0 ++ l) ∧ Inv (i + l.length) s'
  | [], l0, s, s', i, h, hi, hr => by
    obtain rfl := Option.some.inj hr
    rw [List.append_nil]
    exact ⟨h, hi⟩
  | c :: cs, l0, s, s', i, h, hi, hr => by
    cases hs : step s c with
    | none =>
      have hr : (step s c).bind (fun s' => run s' cs) = some s' := hr
      rw [hs] at hr
      cases hr
    | some s1 =>
      rw [run_cons hs] at hr
      have := rend_run cs (l0 ++ [c]) s1 s' (i + 1) (rend_step h hi hs) (inv_step hi hs) hr
      rw [List.append_assoc] at this
      exact ⟨this.1, by rw [List.length_cons, show i + (cs.length + 1) = i + 1 + cs.length by omega]; exact this.2⟩
/-- what is read is the text of the note -/
theorem read_back {l : List Nat} {s : Rd} {n : Nt} {r : List Nt} (hr : run start l = some s) (ho : s.out = []) (hc : (flush s).cur = n :: r) : l = wr n ∧ Ok n ∧ depth n ≤ 100 := by
  obtain ⟨h, hi⟩ := rend_run l [] start s 0 rend_start inv_start hr
  rw [List.nil_append] at h
  have key : (s.last = .token ∨ s.last = .item) → (∃ m, (flush s).cur = [m]) → l = wr n ∧ Ok n ∧ depth n ≤ 100 := by
    rintro hl ⟨m, hm⟩
    obtain ⟨h1, _, h3, h4⟩ := rend_flush h hi hl
    rw [hc] at hm
    injection hm with e1 e2
    subst e1
    subst e2
    rw [hc] at h1 h3 h4
    rw [ho] at h1 h4
    refine ⟨h1, h3.1, ?_⟩
    have : depths [n] = max (depth n) 0 := rfl
    simp at h4
    omega
  cases hla : s.last with
  | token =>
    refine key (.inl hla) ⟨tnote s.tok, ?_⟩
    unfold flush
    rw [if_pos hla]
    show s.cur ++ _ = _
    rw [h.bot ho (by rw [hla]; decide)]
    rfl
  | item =>
    obtain ⟨m, hm⟩ := h.one ho hla
    refine key (.inr hla) ⟨m, ?_⟩
    unfold flush
    rw [if_neg (by rw [hla]; decide), hm]
  | start =>
    have : (flush s).cur = s.cur := by unfold flush; rw [if_neg (by rw [hla]; decide)]
    rw [this, h.bot ho (by rw [hla]; decide)] at hc
    cases hc
  | space => exact absurd ho (h.spa hla)
  | bracket => exact absurd ho (h.bra hla).1
end GN

/-! GB: texts. -/
namespace GG
open PySem L2 PyProof.Rows
/-- a text by its signs -/
abbrev S (l : List Nat) : Str := ⟨l.toArray⟩
theorem S_app (a b : List Nat) : S a ++ S b = S (a ++ b) := by
  show (⟨a.toArray ++ b.toArray⟩ : Str) = ⟨(a ++ b).toArray⟩
  rw [List.append_toArray]
theorem S_len (a : List Nat) : (S a).length = a.length := by show a.toArray.size = _; simp
theorem S_inj {a b : List Nat} (h : S a = S b) : a = b := by injection h with h; simpa using congrArg Array.toList h
theorem S_eq {a b : List Nat} : decide (S a = S b) = decide (a = b) := dec_congr ⟨S_inj, fun h => by rw [h]⟩
theorem S_cps (a : List Nat) : (S a).cps.toList = a := by show a.toArray.toList = a; simp
theorem S_of (z : Str) : z = S z.cps.toList := by cases z; simp [S]
/-! ### rules -/
def uInX (K : PySem.W.Frag) : R2 := fun x y H Q => rIn K false x y H Q ∨ ∃ (c : Nat) (z : Str), x = .str ⟨#[c]⟩ ∧ y = .str z ∧ Q (.bl (decide (c ∈ z.cps.toList))) H
def uNotinX (K : PySem.W.Frag) : R2 := fun x y H Q => rIn K true x y H Q ∨ ∃ (c : Nat) (z : Str), x = .str ⟨#[c]⟩ ∧ y = .str z ∧ Q (.bl (!decide (c ∈ z.cps.toList))) H
def cInt2 : List V → Hp → VK → Prop := fun xs H Q => cInt xs H Q ∨ ∃ a n, xs = [.str a] ∧ PySem.intText? a = some n ∧ a.length ≤ 640 ∧ Q (.int n) H
def cStr : List V → Hp → VK → Prop := fun xs H Q => (∃ i, xs = [.int i] ∧ i.natAbs.log2 < 1920 ∧ Q (.str (toString i)) H) ∨ ∃ a, xs = [.str a] ∧ Q (.str a) H
def rJoin (K : PySem.W.Frag) : V → List V → Hp → VK → Prop := fun x xs H Q => ∃ a p, ∃ ys : List Str, x = .str a ∧ xs = [.ref p] ∧ (SqL K H p (ys.map V.str) ∨ SqT K H p (ys.map V.str)) ∧ (ys.map (·.length)).sum + ys.length * a.length ≤ 16777216 ∧ Q (.str (Txt.join a ys)) H
def rRemP : V → List V → Hp → VK → Prop := fun x xs H Q => ∃ a b, x = .str a ∧ xs = [.str b] ∧ a.length ≤ sizeLine ∧ Q (.str (Txt.removeprefix a b)) H
section
variable {X : Cx}
theorem u_inX (K : PySem.W.Frag) (hK : X.K = K := by rfl) : OpR X (compareOp .In) (uInX K) := by subst hK; exact op_in_seq.or op_in_sign
theorem u_notinX (K : PySem.W.Frag) (hK : X.K = K := by rfl) : OpR X (compareOp .NotIn) (uNotinX K) := by subst hK; exact op_notIn_seq.or op_notIn_sign
theorem c_int2 : CallR X (.type "int") cInt2 := fun pins s σ H xs us Q I r h => h.elim (fun h => c_int pins s σ H xs us Q I r h) (fun h => call_int_str pins s σ H xs us Q I r h)
theorem c_str : CallR X (.type "str") cStr := fun pins s σ H xs us Q I r h => h.elim (fun h => call_str_int pins s σ H xs us Q I r h) (fun h => SkE.call_str_str pins s σ H xs us Q I r h)
theorem m_join (K : PySem.W.Frag) (hK : X.K = K := by rfl) : MtR X "str.join" (rJoin K) := by subst hK; exact mt_join
theorem m_extend (K : PySem.W.Frag) : MtR X "list.extend" rExtend := mt_extend
theorem m_removeprefix : MtR X "str.removeprefix" rRemP := mt_removeprefix
/-- a text, n times -/
def rRepS : R2 := fun x y H Q => ∃ (l : List Nat) (n : Nat), x = .str (S l) ∧ y = .int (n : Int) ∧ 1 ≤ n ∧ n ≤ 1000 ∧ l.length ≤ 1000 ∧ l ≠ [] ∧ Q (.str (S (List.replicate n l).flatten)) H
def uMulX : R2 := fun x y H Q => uMul x y H Q ∨ rRepS x y H Q
theorem fold_app (l : List Nat) : ∀ (n : Nat) (a : Array Nat), (List.replicate n l.toArray).foldl (· ++ ·) a = (a.toList ++ (List.replicate n l).flatten).toArray
  | 0, a => by simp
  | n + 1, a => by
    rw [List.replicate_succ, List.foldl_cons, fold_app l n, List.replicate_succ, List.flatten_cons]
    simp
theorem op_repS : OpR X (binaryOp .Mult) rRepS := by
  intro pins s σ H x y v u Q I rx ry h
  obtain ⟨l, n, rfl, rfl, h1, h2, h3, h4, q⟩ := h
  obtain ⟨t, rfl⟩ := (show ∃ t, v = Value.str (S l) t from rx)
  obtain ⟨t2, rfl⟩ := (show ∃ t, u = Value.int (n : Int) t from ry)
  have hl : (S l).length = l.length := S_len l
  have hsz : l.length * n ≤ 1000000 := by
    have := Nat.mul_le_mul h3 h2
    omega
  refine PySem.P.mul_str ?_ ?_ ?_ ?_
  · rw [decide_eq_false (by omega), decide_eq_false (by omega)]; rfl
  · intro _ _
    rw [hl]
    have : (1000000 : Int) ≤ (2 ^ 63 - 1) / (n : Int) := by
      rw [Int.le_ediv_iff_mul_le (by omega)]
      have : (n : Int) ≤ 1000 := by omega
      omega
    omega
  · intro _ _
    unfold Builtin.Str.tooLong
    have := sizeLine_eq
    rw [hl]
    simp
    omega
  · rw [if_neg (by omega)]
    split
    · rename_i hh
      have hn : n = 1 := by
        rw [Bool.or_eq_true, hl] at hh
        rcases hh with hh | hh
        · have := beq_iff_eq.mp hh; omega
        · exact absurd (List.eq_nil_of_length_eq_zero (beq_iff_eq.mp hh)) h4
      subst hn
      rw [show (List.replicate 1 l).flatten = l by simp] at q
      exact ⟨.str (S l), H, I, ⟨_, rfl⟩, q⟩
    · rw [show (⟨(List.replicate ((n : Int)).toNat (S l).cps).foldl (· ++ ·) #[]⟩ : Str) = S (List.replicate n l).flatten by
        rw [Int.toNat_natCast]
        show (⟨(List.replicate n l.toArray).foldl (· ++ ·) #[]⟩ : Str) = _
        rw [fold_app]
        simp]
      refine ⟨?_, .str (S (List.replicate n l).flatten), H, I.tok _, ⟨_, rfl⟩, q⟩
      rw [S_len, List.length_flatten]
      have := sizeLine_eq
      simp
      rw [Nat.mul_comm]
      omega
theorem u_mulX : OpR X (binaryOp .Mult) uMulX := u_mul.or op_repS
def uIsN : R2 := fun x y H Q => y = .non ∧ Q (.bl (decide (x = .non))) H
def uNotN : R2 := fun x y H Q => y = .non ∧ Q (.bl (!decide (x = .non))) H
theorem u_isN : OpR X (compareOp .Is) uIsN := op_isN
theorem u_notN : OpR X (compareOp .IsNot) uNotN := op_notN
/-- a constant of the module -/
theorem pe_const {x : Str} {v : V} {pos : Pos} (h : ∃ u, X.mg x = some u ∧ RelV v u) (hg : Gl X x := by rfl) (hd : (x == ("__debug__" : Str)) = false := by decide) : PE X (.Name x pos) (tC v) := by
  obtain ⟨u, hm, r⟩ := h
  exact pe_glob hg hm r hd
end
section
variable {K : PySem.W.Frag} {σ : L2.St} {H : Hp} {Q : VK} {QB : Bool → Hp → Prop} {a p : Addr} {c : Nat} {z x : Str} {i : Int} {xs ys : List V} {v : V} {l m : List Nat} {ss : List Str} {P0 : Prop}
instance j_isN0 : St1 (uIsN .non .non H Q) (Q (.bl true) H) := ⟨fun q => ⟨rfl, q⟩⟩
instance j_isNI : St1 (uIsN (.int i) .non H Q) (Q (.bl false) H) := ⟨fun q => ⟨rfl, q⟩⟩
instance j_isNS : St1 (uIsN (.str x) .non H Q) (Q (.bl false) H) := ⟨fun q => ⟨rfl, q⟩⟩
instance j_isNR : St1 (uIsN (.ref a) .non H Q) (Q (.bl false) H) := ⟨fun q => ⟨rfl, q⟩⟩
instance j_notN0 : St1 (uNotN .non .non H Q) (Q (.bl false) H) := ⟨fun q => ⟨rfl, q⟩⟩
instance j_notNI : St1 (uNotN (.int i) .non H Q) (Q (.bl true) H) := ⟨fun q => ⟨rfl, q⟩⟩
instance j_notNS : St1 (uNotN (.str x) .non H Q) (Q (.bl true) H) := ⟨fun q => ⟨rfl, q⟩⟩
instance j_notNR : St1 (uNotN (.ref a) .non H Q) (Q (.bl true) H) := ⟨fun q => ⟨rfl, q⟩⟩
instance j_isST : St1 (rIsi K [.str x, .ty "tuple"] H Q) (Q (.bl false) H) := ⟨fun q => ⟨.str x, .ty "tuple", .type "str", .type "tuple", false, rfl, .ty _, .base (.str x), kit_ty (by decide +kernel), q⟩⟩
instance j_isIT : St1 (rIsi K [.int i, .ty "tuple"] H Q) (Q (.bl false) H) := ⟨fun q => ⟨.int i, .ty "tuple", .type "int", .type "tuple", false, rfl, .ty _, .base (.int i), kit_ty (by decide +kernel), q⟩⟩
instance j_isNT : St1 (rIsi K [.non, .ty "tuple"] H Q) (Q (.bl false) H) := ⟨fun q => ⟨.non, .ty "tuple", .type "NoneType", .type "tuple", false, rfl, .ty _, .base .non, kit_ty (by decide +kernel), q⟩⟩
instance j_isSS : St1 (rIsi K [.str x, .ty "str"] H Q) (Q (.bl true) H) := ⟨fun q => ⟨.str x, .ty "str", .type "str", .type "str", true, rfl, .ty _, .base (.str x), kit_ty (by decide +kernel), q⟩⟩
instance j_isIS : St1 (rIsi K [.int i, .ty "str"] H Q) (Q (.bl false) H) := ⟨fun q => ⟨.int i, .ty "str", .type "int", .type "str", false, rfl, .ty _, .base (.int i), kit_ty (by decide +kernel), q⟩⟩
theorem v_isTS {zs : List V} (ha : H a = some (.tup zs)) (q : Q (.bl false) H) : rIsi K [.ref a, .ty "str"] H Q := ⟨.ref a, .ty "str", .type "tuple", .type "str", false, rfl, .ty _, .base (.tup ha), kit_ty (by decide +kernel), q⟩
instance i_tyS : St1 (tyV K "str" (.str x) H ∧ P0) P0 := ⟨fun q => ⟨rfl, q⟩⟩
theorem v_inS (q : Q (.bl (decide (c ∈ z.cps.toList))) H) : uInX K (.str ⟨#[c]⟩) (.str z) H Q := .inr ⟨c, z, rfl, rfl, q⟩
theorem v_notinS (q : Q (.bl (!decide (c ∈ z.cps.toList))) H) : uNotinX K (.str ⟨#[c]⟩) (.str z) H Q := .inr ⟨c, z, rfl, rfl, q⟩
theorem inV_strs : ∀ {ss : List Str}, inV (.str x) (ss.map V.str) = decide (x ∈ ss)
  | [] => rfl
  | y :: ss => by
    have ih := inV_strs (ss := ss)
    unfold inV at ih ⊢
    rw [List.map_cons, List.any_cons, ih]
    show (y == x || decide (x ∈ ss)) = _
    rw [Bool.eq_iff_iff, Bool.or_eq_true, beq_iff_eq, decide_eq_true_eq, decide_eq_true_eq, List.mem_cons]
    exact ⟨fun h => h.elim (fun h => .inl h.symm) .inr, fun h => h.elim (fun h => .inl h.symm) .inr⟩
theorem flat_strs : ∀ {ss : List Str}, (ss.map V.str).all flatV = true
  | [] => rfl
  | y :: ss => by rw [List.map_cons, List.all_cons, flat_strs]; rfl
theorem v_inTS (ha : H a = some (.tup (ss.map V.str))) (q : Q (.bl (decide (x ∈ ss))) H) : uInX K (.str x) (.ref a) H Q := .inl ⟨a, _, rfl, .inr (SqT.of ha), rfl, flat_strs, by rw [if_neg Bool.false_ne_true, inV_strs]; exact q⟩
theorem v_intS {n : Int} (h : PySem.intText? x = some n) (hl : x.length ≤ 640) (q : Q (.int n) H) : cInt2 [.str x] H Q := .inr ⟨x, n, rfl, h, hl, q⟩
theorem v_int2 (q : Q (.int i) H) : cInt2 [.int i] H Q := .inl (v_int q)
instance j_int2 : St1 (cInt2 [.int i] H Q) (Q (.int i) H) := ⟨v_int2⟩
theorem v_strI (h : i.natAbs.log2 < 1920) (q : Q (.str (toString i)) H) : cStr [.int i] H Q := .inl ⟨i, rfl, h, q⟩
instance j_strS : St1 (cStr [.str x] H Q) (Q (.str x) H) := ⟨fun q => .inr ⟨x, rfl, q⟩⟩
/-- the last item -/
theorem v_ixLast (ha : H a = some (.lst (xs ++ [v]))) (q : Q v H) : uIx K (.ref a) (.int (-1)) H Q := by
  refine .inl ⟨a, _, -1, v, rfl, rfl, SqL.of ha, ?_, q⟩
  unfold atI ixN
  rw [if_neg (by decide), List.length_append, List.length_singleton]
  rw [if_pos (by omega)]
  show (xs ++ [v])[_]? = some v
  rw [show (-1 + ((xs.length + 1 : Nat) : Int)).toNat = xs.length by omega]
  simp
theorem v_pop (ha : H a = some (.lst (xs ++ [v]))) (q : ∀ H2, But a H H2 → H2 a = some (.lst xs) → Q v H2) : rPop (.ref a) [] H Q := by
  refine ⟨a, _, v, rfl, rfl, ha, by simp, q _ But.upd ?_⟩
  rw [upd_same]
  simp
/-- one sign of a text -/
theorem v_ixS {j : Nat} (hj : (S l).length ≤ sizeLine) (h : l[j]? = some c) (q : Q (.str ⟨#[c]⟩) H) : uIx K (.str (S l)) (.int (j : Int)) H Q := by
  refine .inr (.inr ⟨S l, (j : Int), c, rfl, rfl, hj, ?_, q⟩)
  rw [S_cps]
  exact atI_nat h
theorem v_lenS (h : z.length ≤ sizeLine) (q : Q (.int (z.length : Int)) H) : cLen K [.str z] H Q := ⟨.str z, z.length, rfl, ⟨h, rfl⟩, q⟩
theorem v_remP (h : x.length ≤ sizeLine) (q : Q (.str (Txt.removeprefix x z)) H) : rRemP (.str x) [.str z] H Q := ⟨x, z, rfl, rfl, h, q⟩
theorem v_joinL (ha : H a = some (.lst (ss.map V.str))) (hz : (ss.map (·.length)).sum + ss.length * x.length ≤ 16777216) (q : Q (.str (Txt.join x ss)) H) : rJoin K (.str x) [.ref a] H Q := ⟨x, a, ss, rfl, rfl, .inl (SqL.of ha), hz, q⟩
theorem v_extend {b : Addr} (ha : H a = some (.lst xs)) (hb : H b = some (.lst ys)) (hz : xs.length + ys.length ≤ 1000000) (q : ∀ H2, But a H H2 → H2 a = some (.lst (xs ++ ys)) → Q .non H2) : rExtend (.ref a) [.ref b] H Q :=
  ⟨a, b, xs, ys, rfl, rfl, ha, hb, by have := sizeLine_eq; omega, q _ But.upd upd_same⟩
theorem ty_str : tyV K "str" (.str x) H := by unfold tyV; exact rfl
theorem r_truL (ha : H a = some (.lst xs)) (q : QB (!xs.isEmpty) H) : rTru K (.ref a) H QB := ⟨_, .inl ⟨xs, SqL.of ha, rfl⟩, q⟩
end
end GG

/-! GL: lists of texts: in, ==, index. -/
namespace GG
open PySem L2 PyProof.Rows
theorem eqv_strs : ∀ {ms ns : List Str}, PyData.eqvAll (ms.map PyData.str) (ns.map PyData.str) = decide (ms = ns)
  | [], [] => by simp [PyData.eqvAll]
  | [], n :: ns => by simp [PyData.eqvAll]
  | m :: ms, [] => by simp [PyData.eqvAll]
  | m :: ms, n :: ns => by
    rw [List.map_cons, List.map_cons]
    unfold PyData.eqvAll
    rw [eqv_strs]
    unfold PyData.eqv
    rw [Bool.eq_iff_iff]
    simp
theorem lay_strs : ∀ {ms : List Str}, (∀ m ∈ ms, PyData.strOk m = true) → PyData.canLayAll0 (ms.map PyData.str) = true ∧ PyData.depthAll (ms.map PyData.str) = 0
  | [], _ => ⟨rfl, rfl⟩
  | m :: ms, h => by
    obtain ⟨h1, h2⟩ := lay_strs (ms := ms) fun x hx => h x (.tail _ hx)
    rw [List.map_cons]
    unfold PyData.canLayAll0 PyData.depthAll
    rw [h1, h2]
    refine ⟨?_, rfl⟩
    unfold PyData.canLay0
    rw [h m (.head _)]
    rfl
def rIndexK (K : PySem.W.Frag) : V → List V → Hp → VK → Prop := rIndex K
theorem m_index (K : PySem.W.Frag) {X : Cx} (hK : X.K = K := by rfl) : MtR X "list.index" (rIndexK K) := by subst hK; exact mt_index
section
variable {K : PySem.W.Frag} {H : Hp} {Q : VK} {a b : Addr} {ms ns : List Str} {x : Str}
theorem dp_strs : ∀ {ms : List Str}, DpAll K H (ms.map V.str) (ms.map PyData.str)
  | [] => .nil
  | m :: ms => .cons (.str m) dp_strs
theorem shaped_strs (h : ∀ m ∈ ms, PyData.strOk m = true) : SeqAt.shaped (.list (ms.map PyData.str)) = true := by
  unfold SeqAt.shaped PyData.canLay0 PyData.depth
  rw [(lay_strs h).1, (lay_strs h).2]
  rfl
theorem shaped_strsT (h : ∀ m ∈ ms, PyData.strOk m = true) : SeqAt.shaped (.tuple (ms.map PyData.str)) = true := by
  unfold SeqAt.shaped PyData.canLay0 PyData.depth
  rw [(lay_strs h).1, (lay_strs h).2]
  rfl
theorem v_eqLS (hm : ∀ m ∈ ms, PyData.strOk m = true) (hn : ∀ m ∈ ns, PyData.strOk m = true) (ha : H a = some (.lst (ms.map V.str))) (hb : H b = some (.lst (ns.map V.str))) (q : Q (.bl (decide (ms = ns))) H) : uEq K (.ref a) (.ref b) H Q :=
  .inr ⟨_, _, .lst (SqL.of ha) dp_strs, .lst (SqL.of hb) dp_strs, shaped_strs hm, shaped_strs hn, by unfold PyData.eqv; rw [eqv_strs]; exact q⟩
theorem v_neLS (hm : ∀ m ∈ ms, PyData.strOk m = true) (hn : ∀ m ∈ ns, PyData.strOk m = true) (ha : H a = some (.lst (ms.map V.str))) (hb : H b = some (.lst (ns.map V.str))) (q : Q (.bl (!decide (ms = ns))) H) : uNe K (.ref a) (.ref b) H Q :=
  .inr ⟨_, _, .lst (SqL.of ha) dp_strs, .lst (SqL.of hb) dp_strs, shaped_strs hm, shaped_strs hn, by unfold PyData.eqv; rw [eqv_strs]; exact q⟩
theorem v_eqTS (hm : ∀ m ∈ ms, PyData.strOk m = true) (hn : ∀ m ∈ ns, PyData.strOk m = true) (ha : H a = some (.tup (ms.map V.str))) (hb : H b = some (.tup (ns.map V.str))) (q : Q (.bl (decide (ms = ns))) H) : uEq K (.ref a) (.ref b) H Q :=
  .inr ⟨_, _, .tup (SqT.of ha) dp_strs, .tup (SqT.of hb) dp_strs, shaped_strsT hm, shaped_strsT hn, by unfold PyData.eqv; rw [eqv_strs]; exact q⟩
theorem v_neTS (hm : ∀ m ∈ ms, PyData.strOk m = true) (hn : ∀ m ∈ ns, PyData.strOk m = true) (ha : H a = some (.tup (ms.map V.str))) (hb : H b = some (.tup (ns.map V.str))) (q : Q (.bl (!decide (ms = ns))) H) : uNe K (.ref a) (.ref b) H Q :=
  .inr ⟨_, _, .tup (SqT.of ha) dp_strs, .tup (SqT.of hb) dp_strs, shaped_strsT hm, shaped_strsT hn, by unfold PyData.eqv; rw [eqv_strs]; exact q⟩
theorem v_inLS (ha : H a = some (.lst (ms.map V.str))) (q : Q (.bl (decide (x ∈ ms))) H) : uInX K (.str x) (.ref a) H Q := .inl ⟨a, _, rfl, .inl (SqL.of ha), rfl, flat_strs, by rw [if_neg Bool.false_ne_true, inV_strs]; exact q⟩
theorem v_notinLS (ha : H a = some (.lst (ms.map V.str))) (q : Q (.bl (!decide (x ∈ ms))) H) : uNotinX K (.str x) (.ref a) H Q := .inl ⟨a, _, rfl, .inl (SqL.of ha), rfl, flat_strs, by rw [if_pos rfl, inV_strs]; exact q⟩
theorem v_notinTS (ha : H a = some (.tup (ms.map V.str))) (q : Q (.bl (!decide (x ∈ ms))) H) : uNotinX K (.str x) (.ref a) H Q := .inl ⟨a, _, rfl, .inr (SqT.of ha), rfl, flat_strs, by rw [if_pos rfl, inV_strs]; exact q⟩
theorem v_index {j : Nat} (ha : H a = some (.lst (ms.map V.str))) (h : ms[j]? = some x) (hn : ∀ m, m < j → ms[m]? ≠ some x) (q : Q (.int (j : Nat)) H) : rIndexK K (.ref a) [.str x] H Q := by
  refine ⟨a, _, .str x, j, .str x, rfl, rfl, SqL.of ha, rfl, flat_strs, by rw [List.getElem?_map, h]; rfl, beq_self_eq_true x, fun m z hm hz => ?_, q⟩
  rw [List.getElem?_map] at hz
  cases e : ms[m]? with
  | none => rw [e] at hz; cases hz
  | some y =>
    rw [e] at hz
    obtain rfl := Option.some.inj hz
    show (y == x) = false
    exact beq_eq_false_iff_ne.mpr fun z => hn m hm (by rw [e, z])
end
/-- what keyword n of ks is given -/
def lk : List Str → List Int → Str → Int
  | k :: ks, x :: xs, n => if k = n then x else lk ks xs n
  | _, _, _ => 0
theorem lk_val {n : Str} : ∀ {ks : List Str} {xs : List Int}, (valV (kwD ks (xs.map V.int)) (.inr n : Key)).getD (.int 0) = .int (lk ks xs n)
  | [], _ => rfl
  | k :: ks, [] => rfl
  | k :: ks, x :: xs => by
    have ih := lk_val (n := n) (ks := ks) (xs := xs)
    show (valV (((.inr k : Key), V.int x) :: kwD ks (xs.map V.int)) (.inr n : Key)).getD (.int 0) = .int (if k = n then x else lk ks xs n)
    by_cases e : k = n
    · subst e
      rw [valV_pos rfl, if_pos rfl]
      rfl
    · rw [valV_neg (fun z => e (Sum.inr.inj z)), if_neg e]
      exact ih
theorem kwD_at {ks : List Str} {zs : List V} {i : Nat} {k : Key} {v : V} (h : (kwD ks zs)[i]? = some (k, v)) : ∃ x, ks[i]? = some x ∧ k = .inr x := by
  unfold kwD at h
  rw [List.getElem?_zip_eq_some] at h
  obtain ⟨h1, h2⟩ := h
  rw [List.getElem?_map] at h1
  cases e : ks[i]? with
  | none => rw [e] at h1; cases h1
  | some x => rw [e] at h1; exact ⟨x, rfl, (Option.some.inj h1).symm⟩
end GG

/-! GP: the texts of shares, in plain lists. -/
namespace GN
open PySem PySem.NumText
/-- decimal digits without a leading zero -/
def num (l : List Nat) : Bool := !l.isEmpty && l.all digit && (decide (l.length = 1) || !decide (l.headD 0 = 48))
theorem num_form {l : List Nat} (h : num l = true) : l = [48] ∨ ∃ d ds, l = d :: ds ∧ 49 ≤ d ∧ AllDigits (d :: ds) := by
  unfold num at h
  rw [Bool.and_eq_true, Bool.and_eq_true, Bool.or_eq_true] at h
  obtain ⟨⟨h1, h2⟩, h3⟩ := h
  cases l with
  | nil => cases h1
  | cons d ds =>
    have ha : AllDigits (d :: ds) := fun c hc => digit_all (List.all_eq_true.mp h2 c hc)
    by_cases e : d = 48
    · subst e
      rcases h3 with h3 | h3
      · left
        have := of_decide_eq_true h3
        simp at this
        rw [this]
      · simp at h3
    · right
      have := ha d (List.mem_cons_self ..)
      exact ⟨d, ds, rfl, by omega, ha⟩
theorem num_all {l : List Nat} (h : num l = true) : AllDigits l := by
  rcases num_form h with rfl | ⟨d, ds, rfl, _, ha⟩
  · intro c hc
    simp at hc
    omega
  · exact ha
theorem num_ne {l : List Nat} (h : num l = true) : l ≠ [] := by
  intro e
  rw [e] at h
  cases h
theorem num_dig {l : List Nat} (h : num l = true) : dig (digitsVal l) = l := by
  rcases num_form h with rfl | ⟨d, ds, rfl, h1, ha⟩
  · exact dig_zero
  · exact dig_back ds d h1 ha
theorem dig_num (m : Nat) : num (dig m) = true := by
  have hall : (dig m).all digit = true := List.all_eq_true.mpr fun c hc => all_digit (dig_all m) hc
  unfold num
  rw [hall, Bool.and_true]
  by_cases h : m = 0
  · subst h
    rw [dig_zero]
    rfl
  · obtain ⟨d, ds, e, h1, h2⟩ := dig_head m (by omega)
    rw [e]
    simp
    omega
theorem num_zero {l : List Nat} (h : num l = true) : digitsVal l = 0 ↔ l = [48] := by
  constructor
  · intro e
    rw [← num_dig h, e, dig_zero]
  · rintro rfl
    rfl
/-- a number with its sign -/
def sg (ng : Bool) (m : Nat) : Int := if ng = true then -(m : Int) else (m : Int)
theorem sg_abs (ng : Bool) (m : Nat) : (sg ng m).natAbs = m := by
  unfold sg
  split <;> omega
theorem sg_itx {ng : Bool} {m : Nat} (h : ng = true → m ≠ 0) : itx (sg ng m) = if ng = true then 45 :: dig m else dig m := by
  unfold itx sg
  cases ng with
  | true =>
    have := h rfl
    simp only [if_true]
    rw [if_pos (by omega)]
    congr 2
    omega
  | false =>
    simp only [Bool.false_eq_true, if_false]
    rw [if_neg (by omega)]
    congr 1
def rdb (ng : Bool) (l : List Nat) : Option (Int × Int) :=
  if num (l.takeWhile (· ≠ 47)) = true ∧ (ng = true → digitsVal (l.takeWhile (· ≠ 47)) ≠ 0) then
    match l.dropWhile (· ≠ 47) with
    | [] => some (sg ng (digitsVal (l.takeWhile (· ≠ 47))), 1)
    | _ :: b => if num b = true ∧ 2 ≤ digitsVal b ∧ Nat.gcd (digitsVal (l.takeWhile (· ≠ 47))) (digitsVal b) = 1 then some (sg ng (digitsVal (l.takeWhile (· ≠ 47))), (digitsVal b : Int)) else none
  else none
/-- the share of a text -/
def rd (l : List Nat) : Option (Int × Int) := rdb (decide (l.headD 0 = 45)) (if l.headD 0 = 45 then l.drop 1 else l)
/-- the text of a share -/
def tx (T B : Int) : List Nat := if B = 1 then itx T else itx T ++ 47 :: itx B
theorem tw_all {a : List Nat} {s : Nat} (h : ∀ c ∈ a, c ≠ s) : a.takeWhile (· ≠ s) = a ∧ a.dropWhile (· ≠ s) = [] := by
  induction a with
  | nil => exact ⟨rfl, rfl⟩
  | cons c d ih =>
    obtain ⟨h1, h2⟩ := ih fun x hx => h x (.tail _ hx)
    have hc := h c (.head _)
    rw [List.takeWhile_cons_of_pos (by simp [hc]), List.dropWhile_cons_of_pos (by simp [hc]), h1, h2]
    exact ⟨rfl, rfl⟩
theorem tw_cut {a r : List Nat} {s : Nat} (h : ∀ c ∈ a, c ≠ s) : (a ++ s :: r).takeWhile (· ≠ s) = a ∧ (a ++ s :: r).dropWhile (· ≠ s) = s :: r := by
  constructor
  · rw [List.takeWhile_append_of_pos (fun x hx => by simp [h x hx]), List.takeWhile_cons_of_neg (by simp), List.append_nil]
  · rw [List.dropWhile_append_of_pos (fun x hx => by simp [h x hx]), List.dropWhile_cons_of_neg (by simp)]
theorem dig_not {m c : Nat} (h : c ∈ dig m) : c ≠ 47 := by
  have := dig_all m c h
  omega
theorem nat_itx {B : Int} (h : 0 ≤ B) : itx B = dig B.natAbs := by
  unfold itx
  rw [if_neg (by omega)]
theorem rdb_tx {T B : Int} {ng : Bool} (h0 : ng = true → T.natAbs ≠ 0) (hB : 0 < B) (hg : Int.gcd T B = 1) : rdb ng (if B = 1 then dig T.natAbs else dig T.natAbs ++ 47 :: dig B.natAbs) = some (sg ng T.natAbs, B) := by
  have hd : ∀ c ∈ dig T.natAbs, c ≠ 47 := fun c hc => dig_not hc
  unfold rdb
  by_cases hb : B = 1
  · rw [if_pos hb, (tw_all hd).1, (tw_all hd).2, if_pos ⟨dig_num _, by rw [dig_val]; exact h0⟩, dig_val, hb]
  · rw [if_neg hb, (tw_cut hd).1, (tw_cut hd).2, if_pos ⟨dig_num _, by rw [dig_val]; exact h0⟩]
    dsimp only
    rw [dig_val, dig_val, if_pos ⟨dig_num _, by omega, hg⟩]
    congr 2
    omega
theorem head_dig (m : Nat) (r : List Nat) : (dig m ++ r).headD 0 ≠ 45 := by
  cases e : dig m with
  | nil => exact absurd (dig_num m) (by rw [e]; decide)
  | cons d ds =>
    have := dig_all m d (by rw [e]; exact List.mem_cons_self ..)
    show d ≠ 45
    omega
theorem rd_tx {T B : Int} (hB : 0 < B) (hg : Int.gcd T B = 1) : rd (tx T B) = some (T, B) := by
  have e : tx T B = if T < 0 then 45 :: (if B = 1 then dig T.natAbs else dig T.natAbs ++ 47 :: dig B.natAbs) else (if B = 1 then dig T.natAbs else dig T.natAbs ++ 47 :: dig B.natAbs) := by
    unfold tx
    rw [nat_itx (B := B) (by omega)]
    unfold itx
    split <;> split <;> rfl
  rw [e]
  unfold rd
  by_cases h : T < 0
  · rw [if_pos h]
    show rdb true (if B = 1 then dig T.natAbs else dig T.natAbs ++ 47 :: dig B.natAbs) = _
    rw [rdb_tx (fun _ => by omega) hB hg]
    unfold sg
    rw [if_pos rfl]
    congr 2
    omega
  · rw [if_neg h]
    have hh : (if B = 1 then dig T.natAbs else dig T.natAbs ++ 47 :: dig B.natAbs).headD 0 ≠ 45 := by
      split
      · have := head_dig T.natAbs []
        rwa [List.append_nil] at this
      · exact head_dig _ _
    rw [if_neg hh, decide_eq_false hh, rdb_tx (ng := false) (fun z => nomatch z) hB hg]
    unfold sg
    rw [if_neg Bool.false_ne_true]
    congr 2
    omega
theorem tw_app (l : List Nat) (s : Nat) : l = l.takeWhile (· ≠ s) ++ l.dropWhile (· ≠ s) := List.takeWhile_append_dropWhile.symm
theorem dw_head {l b : List Nat} {s x : Nat} (h : l.dropWhile (· ≠ s) = x :: b) : x = s := by
  have h2 : (l.dropWhile (· ≠ s)).head? = some x := by rw [h]; rfl
  have := List.head?_dropWhile_not (fun c => decide (c ≠ s)) l
  rw [h2] at this
  simpa using this
theorem rdb_back {ng : Bool} {l : List Nat} {T B : Int} (h : rdb ng l = some (T, B)) : (if ng = true then 45 :: l else l) = tx T B ∧ 0 < B ∧ Int.gcd T B = 1 ∧ T.natAbs < 10 ^ l.length ∧ B.natAbs < 10 ^ (l.length + 1) := by
  unfold rdb at h
  split at h
  · rename_i hc
    obtain ⟨h1, h2⟩ := hc
    have h3 := num_dig h1
    have hlen : (l.takeWhile (· ≠ 47)).length ≤ l.length := (List.takeWhile_sublist _).length_le
    have hlt : digitsVal (l.takeWhile (· ≠ 47)) < 10 ^ l.length := Nat.lt_of_lt_of_le (digits_lt2 (num_all h1)) (Nat.pow_le_pow_right (by decide) hlen)
    have ha := tw_app l 47
    split at h
    · rename_i he
      cases h
      rw [he, List.append_nil] at ha
      refine ⟨?_, by decide, by simp, by rw [sg_abs]; exact hlt, Nat.one_lt_pow (by omega) (by decide)⟩
      unfold tx
      rw [if_pos rfl, sg_itx h2, h3, ← ha]
    · rename_i x b he
      split at h
      · rename_i hb
        obtain ⟨b1, b2, b3⟩ := hb
        have hx := dw_head he
        rw [hx] at he
        cases h
        have hbl : b.length ≤ l.length := by
          have := (List.dropWhile_sublist (l := l) (fun c => decide (c ≠ 47))).length_le
          rw [he] at this
          simp at this
          omega
        refine ⟨?_, by omega, by unfold Int.gcd; rw [sg_abs]; exact b3, by rw [sg_abs]; exact hlt, ?_⟩
        · unfold tx
          rw [if_neg (show ¬ ((digitsVal b : Nat) : Int) = 1 by omega), sg_itx h2, h3, nat_itx (by omega), Int.natAbs_natCast, num_dig b1]
          rw [he] at ha
          cases ng with
          | true =>
            rw [if_pos rfl, if_pos rfl, List.cons_append, ← ha]
          | false =>
            rw [if_neg Bool.false_ne_true, if_neg Bool.false_ne_true, ← ha]
        · rw [Int.natAbs_natCast]
          exact Nat.lt_of_lt_of_le (digits_lt2 (num_all b1)) (Nat.pow_le_pow_right (by decide) (by omega))
      · cases h
  · cases h
theorem rd_back {l : List Nat} {T B : Int} (h : rd l = some (T, B)) : l = tx T B ∧ 0 < B ∧ Int.gcd T B = 1 ∧ T.natAbs < 10 ^ (l.length + 1) ∧ B.natAbs < 10 ^ (l.length + 1) := by
  unfold rd at h
  by_cases e : l.headD 0 = 45
  · rw [if_pos e, decide_eq_true e] at h
    obtain ⟨d, rfl⟩ : ∃ d, l = 45 :: d := by
      cases l with
      | nil => cases e
      | cons c d => exact ⟨d, by rw [show c = 45 from e]⟩
    obtain ⟨h1, h2, h3, h4, h5⟩ := rdb_back h
    rw [List.drop_one, List.tail_cons] at h1 h4 h5
    rw [if_pos rfl] at h1
    exact ⟨h1, h2, h3, Nat.lt_of_lt_of_le h4 (Nat.pow_le_pow_right (by decide) (by simp; omega)), Nat.lt_of_lt_of_le h5 (Nat.pow_le_pow_right (by decide) (by simp))⟩
  · rw [if_neg e, decide_eq_false e] at h
    obtain ⟨h1, h2, h3, h4, h5⟩ := rdb_back h
    rw [if_neg Bool.false_ne_true] at h1
    exact ⟨h1, h2, h3, Nat.lt_of_lt_of_le h4 (Nat.pow_le_pow_right (by decide) (by omega)), h5⟩
theorem bare_tw (l : List Nat) : bare (l.takeWhile (· ≠ 47)) = (if l.headD 0 = 45 then l.drop 1 else l).takeWhile (· ≠ 47) := by
  cases l with
  | nil => rfl
  | cons c d =>
    by_cases e : c = 45
    · subst e
      rw [List.takeWhile_cons_of_pos (by decide), if_pos (show (45 :: d).headD 0 = 45 from rfl)]
      rfl
    · rw [if_neg (show ¬ (c :: d).headD 0 = 45 from e)]
      by_cases e2 : c = 47
      · subst e2
        rw [List.takeWhile_cons_of_neg (by decide)]
        rfl
      · rw [List.takeWhile_cons_of_pos (by simp [e2])]
        unfold bare
        split
        · rename_i h
          cases h
          exact absurd rfl e
        · rfl
theorem dw_body (l : List Nat) : (if l.headD 0 = 45 then l.drop 1 else l).dropWhile (· ≠ 47) = l.dropWhile (· ≠ 47) := by
  cases l with
  | nil => rfl
  | cons c d =>
    by_cases e : c = 45
    · subst e
      rw [if_pos (show (45 :: d).headD 0 = 45 from rfl), List.dropWhile_cons_of_pos (by decide)]
      rfl
    · rw [if_neg (show ¬ (c :: d).headD 0 = 45 from e)]
theorem tw_top (l : List Nat) : l.takeWhile (· ≠ 47) = if decide (l.headD 0 = 45) = true then 45 :: bare (l.takeWhile (· ≠ 47)) else bare (l.takeWhile (· ≠ 47)) := by
  cases l with
  | nil => rfl
  | cons c d =>
    by_cases e : c = 45
    · subst e
      rw [if_pos (decide_eq_true (show (45 :: d).headD 0 = 45 from rfl)), List.takeWhile_cons_of_pos (by decide)]
      rfl
    · rw [if_neg (by rw [decide_eq_false (show ¬ (c :: d).headD 0 = 45 from e)]; exact Bool.false_ne_true), bare_tw, if_neg (show ¬ (c :: d).headD 0 = 45 from e)]
/-- the digits of the top -/
def tt (l : List Nat) : List Nat := bare (l.takeWhile (· ≠ 47))
theorem rd_bad {l : List Nat} (h : ¬ (num (tt l) = true ∧ (decide (l.headD 0 = 45) = true → digitsVal (tt l) ≠ 0))) : rd l = none := by
  unfold tt at h
  rw [bare_tw] at h
  unfold rd rdb
  rw [if_neg h]
theorem rd_one {l : List Nat} (h1 : num (tt l) = true) (h2 : decide (l.headD 0 = 45) = true → digitsVal (tt l) ≠ 0) (h : l.dropWhile (· ≠ 47) = []) : rd l = some (sg (decide (l.headD 0 = 45)) (digitsVal (tt l)), 1) := by
  unfold tt at *
  rw [bare_tw] at *
  unfold rd rdb
  rw [if_pos ⟨h1, h2⟩, dw_body, h]
theorem rd_two {l b : List Nat} {s : Nat} (h1 : num (tt l) = true) (h2 : decide (l.headD 0 = 45) = true → digitsVal (tt l) ≠ 0) (h : l.dropWhile (· ≠ 47) = s :: b) (hb : num b = true ∧ 2 ≤ digitsVal b ∧ Nat.gcd (digitsVal (tt l)) (digitsVal b) = 1) : rd l = some (sg (decide (l.headD 0 = 45)) (digitsVal (tt l)), (digitsVal b : Int)) := by
  unfold tt at *
  rw [bare_tw] at *
  unfold rd rdb
  rw [if_pos ⟨h1, h2⟩, dw_body, h]
  dsimp only
  rw [if_pos hb]
theorem rd_bad2 {l b : List Nat} {s : Nat} (h : l.dropWhile (· ≠ 47) = s :: b) (hb : ¬ (num b = true ∧ 2 ≤ digitsVal b ∧ Nat.gcd (digitsVal (tt l)) (digitsVal b) = 1)) : rd l = none := by
  unfold tt at hb
  rw [bare_tw] at hb
  unfold rd rdb
  rw [dw_body, h]
  dsimp only
  rw [if_neg hb]
  exact ite_self _
theorem bare_len (t : List Nat) : (bare t).length ≤ t.length := by
  unfold bare
  split <;> simp
theorem bare_mem {t : List Nat} {c : Nat} (h : c ∈ bare t) : c ∈ t := by
  unfold bare at h
  split at h
  · exact .tail _ h
  · exact h
theorem take1 (l : List Nat) : l.take 1 = [45] ↔ l.headD 0 = 45 := by
  cases l with
  | nil => simp
  | cons c d => simp
theorem num_47 {b : List Nat} (h : 47 ∈ b) : num b = false := by
  cases e : num b with
  | false => rfl
  | true =>
    have := num_all e 47 h
    omega
theorem int_text {ng : Bool} {t : List Nat} (h : num t = true) (hl : t.length ≤ 600) : intText? ⟨(if ng = true then 45 :: t else t).toArray⟩ = some (sg ng (digitsVal t)) := by
  have ha := num_all h
  cases ng with
  | true =>
    rw [if_pos rfl]
    exact intText_neg (x := ⟨(45 :: t).toArray⟩) (by simp) ha (num_ne h) (by show (45 :: t).toArray.size ≤ 4300; simp; omega)
  | false =>
    rw [if_neg Bool.false_ne_true]
    have e := intText_digits (x := ⟨t.toArray⟩) (by intro d hd; simp at hd; exact ha d hd) (by simp; exact num_ne h) (by show t.toArray.size ≤ 4300; simp; omega)
    rw [e]
    show some ((digitsVal t.toArray.toList : Nat) : Int) = _
    simp [sg]
end GN

/-! GF: cls(..) of a local name; partition, isdigit, split, slices, f-strings, the signs of a text one by one. -/
namespace GG
open PySem L2 PyProof.Rows
/-- cls(e, ..), the local name holding the class at C -/
def tMkL (C : Addr) (sp : Sp) (dvs : List V) (E : L2.St → XK) (tv : TE) (t : TA) : TE := fun σ H Q => tv σ H fun x H0 => rCls C x (t σ H0 fun vs H1 => rMk C sp (E σ) (vs ++ dvs) H1 Q)
theorem pe_mkL {X : Cx} {k : Nat} {C : Addr} {ps : List Str} {sp : Sp} {dvs : List V} {E : L2.St → XK} {x x' : Str} {p pos : Pos} {e : Expr} {es : List Expr} {t : TA} (i : Nat) (M : Mc X.prog X.w X.K X.mg X.base x' C k ps dvs sp) (hr : Room (k + 1) X.A) (hx : Ps X E) (ha : PA X (e :: es) t)
    (hN : X.N[i]? = some x := by rfl) (hv : Vis X.env.scope x := by first | exact Or.inl rfl | exact Or.inr (Or.inl rfl) | exact Or.inr (Or.inr rfl)) (hdb : (x == ("__debug__" : Str)) = false := by decide) (hcd : (x == ("__classdict__" : Str)) = false := by decide)
    (he : starEach (e :: es) X.env = (false, eval e X.env) :: starEach es X.env := by rfl) (hpl : (backTo pos (starEach es X.env)).any (·.1) = false := by rfl) :
    PE X (.Call (.Name x p) (e :: es) [] pos) (tMkL C sp dvs E (tVar i) t) := by
  obtain ⟨f, fd, ds, F, M, hm, hb, hd⟩ := M.ex
  refine ⟨fun pins s σ H Q I h => ?_⟩
  refine wpAny_Call_Name_kw (thn ((pe_var (pos := p) hN hv hdb hcd).run pins s σ H _ I h) fun u s1 ⟨v, H1, I1, r1, ev, q⟩ => ?_)
  subst ev
  obtain rfl : u = Value.ref C := r1
  refine PySem.W.callWith_K (h₀ := X.base) I.ok.mod.kin M.kp (thn (ha.run pos pins s1 σ H1 _ I1 q) fun us s2 ⟨vs, H2, I2, r, q⟩ => ⟨I2.kIn, ?_⟩) he hpl
  exact run_mk M F hr hb hd (hx σ) I2 r q
/-! ### methods of texts -/
def rPartn : V → List V → Hp → VK → Prop := fun x xs H Q => ∃ a b, x = .str a ∧ xs = [.str b] ∧ (b.length == 0) = false ∧ a.length ≤ sizeLine ∧ ∀ p, H p = none → Q (.ref p) (upd H p (.tup [.str (Txt.partition a b).1, .str (Txt.partition a b).2.1, .str (Txt.partition a b).2.2]))
def rIsDg : V → List V → Hp → VK → Prop := fun x xs H Q => ∃ a, x = .str a ∧ xs = [] ∧ True ∧ Q (.bl (Txt.isdigit a)) H
def rSplit : V → List V → Hp → VK → Prop := fun x xs H Q => ∃ a b, x = .str a ∧ xs = [.str b] ∧ (b.length == 0) = false ∧ a.length + 2 ≤ sizeLine ∧ rNewStrs (Txt.split a b) H Q
section
variable {X : Cx}
theorem m_partition : MtR X "str.partition" rPartn := mt_partition
theorem m_isdigit : MtR X "str.isdigit" rIsDg := mt_isdigit
theorem m_split : MtR X "str.split" rSplit := mt_split
/-- the texts of an f-string, one behind the other -/
def tJ (ts : List TE) : TE := fun σ H Q => tJs ts Str.empty σ H fun out H1 => Q (.str out) H1
theorem pe_fs {v1 v2 : Expr} {rest : List Expr} {ts : List TE} {pos : Pos} (h : PJ X (v1 :: v2 :: rest) ts) : PE X (.JoinedStr (v1 :: v2 :: rest) pos) (tJ ts) := pe_joined h
end
def rFmt (x : V) (H : Hp) (Q : VK) : Prop := (∃ y : Str, x = .str y ∧ y.length ≤ sizeLine ∧ Q (.str y) H) ∨ ∃ i : Int, x = .int i ∧ i.natAbs.log2 < 1920 ∧ Q (.str (toString i)) H
def rJ (acc : Str) (x : V) (H : Hp) (P : Str → Hp → Prop) : Prop := ∃ y : Str, x = .str y ∧ (acc ++ y).length ≤ sizeLine ∧ P (acc ++ y) H
theorem par_one {s : Nat} : ∀ (l acc : List Nat), TL.par [s] acc l = match l.dropWhile (· ≠ s) with
    | [] => none
    | _ :: r => some (acc ++ l.takeWhile (· ≠ s), r)
  | [], acc => rfl
  | c :: r, acc => by
    unfold TL.par
    by_cases h : c = s
    · subst h
      rw [if_pos (by simp [TL.pre])]
      simp
    · rw [if_neg (by simp [TL.pre]; exact h), par_one r (acc ++ [c])]
      rw [List.dropWhile_cons, List.takeWhile_cons]
      simp [h]
/-- the parts between the signs s -/
def parts (s : Nat) : List Nat → List (List Nat)
  | [] => [[]]
  | c :: r => if c = s then [] :: parts s r else match parts s r with
    | [] => [[c]]
    | p :: ps => (c :: p) :: ps
theorem parts_ne (s : Nat) : ∀ l, parts s l ≠ []
  | [] => by simp [parts]
  | c :: r => by
    unfold parts
    split
    · simp
    · split <;> simp
theorem spl_one {s : Nat} : ∀ (l acc : List Nat), TL.spl [s] 0 acc l = match parts s l with
    | [] => [acc]
    | p :: ps => (acc ++ p) :: ps
  | [], acc => by simp [TL.spl, parts]
  | c :: r, acc => by
    by_cases h : c = s
    · subst h
      rw [TL.spl_hit (by simp [TL.pre])]
      show acc :: TL.spl [c] 0 [] r = _
      have e2 : parts c (c :: r) = [] :: parts c r := by
        show (if c = c then [] :: parts c r else _) = _
        rw [if_pos rfl]
      rw [spl_one r [], e2]
      cases e : parts c r with
      | nil => exact absurd e (parts_ne c r)
      | cons p ps => simp
    · rw [TL.spl_miss (by simp [TL.pre]; exact h), spl_one r (acc ++ [c])]
      cases e : parts s r with
      | nil => exact absurd e (parts_ne s r)
      | cons p ps =>
        have e2 : parts s (c :: r) = (c :: p) :: ps := by
          show (if c = s then [] :: parts s r else match parts s r with | [] => [[c]] | p :: ps => (c :: p) :: ps) = _
          rw [if_neg h, e]
        rw [e2]
        simp
theorem parts_cut {s : Nat} : ∀ (m : List Nat), parts s m = match m.dropWhile (· ≠ s) with
    | [] => [m]
    | _ :: b => m.takeWhile (· ≠ s) :: parts s b
  | [] => rfl
  | c :: r => by
    by_cases h : c = s
    · subst h
      rw [List.dropWhile_cons_of_neg (by simp), List.takeWhile_cons_of_neg (by simp)]
      show (if c = c then [] :: parts c r else _) = _
      rw [if_pos rfl]
    · rw [List.dropWhile_cons_of_pos (by simp [h]), List.takeWhile_cons_of_pos (by simp [h])]
      have e : parts s (c :: r) = match parts s r with | [] => [[c]] | p :: ps => (c :: p) :: ps := by
        show (if c = s then [] :: parts s r else match parts s r with | [] => [[c]] | p :: ps => (c :: p) :: ps) = _
        rw [if_neg h]
      rw [e, parts_cut r]
      cases r.dropWhile (· ≠ s) with
      | nil => rfl
      | cons x b => rfl
theorem toStr (i : Int) : (toString i : Str) = S (GN.itx i) := by
  rw [S_of (toString i : Str)]
  congr 1
  cases i with
  | ofNat m =>
    show (Str.ofString (toString ((m : Nat) : Int))).cps.toList = _
    rw [PySem.W.KIN.signs_num]
    unfold GN.itx
    rw [if_neg (by show ¬ ((m : Nat) : Int) < 0; omega)]
    rfl
  | negSucc m =>
    show (Str.ofString ("-" ++ Nat.repr (m + 1))).cps.toList = _
    rw [signs_ofString, String.toList_append, List.map_append, Nat.toList_repr]
    unfold GN.itx
    rw [if_pos (by omega)]
    rfl
theorem remBare (t : List Nat) : Txt.removeprefix (S t) (S [45]) = S (GN.bare t) := by
  unfold Txt.removeprefix
  rw [StrLaws.subAt_eq, S_cps, S_cps, List.drop_zero, S_len, S_len]
  match t with
  | [] => rfl
  | c :: ds =>
    by_cases hc : c = 45
    · subst hc
      rw [if_pos (by simp)]
      show (if ((45 :: ds).length - 1 == (S (45 :: ds)).length) = true then S (45 :: ds) else Builtin.Str.strSub (S (45 :: ds)) 1 (45 :: ds).length) = S ds
      rw [if_neg (by rw [S_len]; simp)]
      unfold Builtin.Str.strSub
      simp [S]
    · rw [if_neg (by simp [hc])]
      unfold GN.bare
      split
      · rename_i q; injection q with q _; exact absurd q hc
      · rfl
section
variable {K : PySem.W.Frag} {σ : L2.St} {H : Hp} {Q : VK} {sp : Sp} {E : L2.St → XK} {C a : Addr} {tv te : TE} {t : TA} {dvs : List V} {ts : List TE} {PS : Str → Hp → Prop} {acc z : Str} {i : Int} {l m : List Nat} {n : Nat} {R : It → Hp → Prop}
instance i_mkL : St1 (tMkL C sp dvs E tv t σ H Q) (tv σ H fun x H0 => rCls C x (t σ H0 fun vs H1 => rMk C sp (E σ) (vs ++ dvs) H1 Q)) := ⟨fun h => h⟩
instance i_tJ : St1 (tJ ts σ H Q) (tJs ts Str.empty σ H fun out H1 => Q (.str out) H1) := ⟨fun h => h⟩
instance i_tJn : St1 (tJs [] acc σ H PS) (PS acc H) := ⟨fun h => h⟩
instance i_tJc : St1 (tJs (te :: ts) acc σ H PS) (te σ H fun x H1 => rJ acc x H1 fun out H2 => tJs ts out σ H2 PS) := ⟨fun h => h⟩
instance i_fmt : St1 (tFmt te σ H Q) (te σ H fun x H1 => rFmt x H1 Q) := ⟨fun h => h⟩
theorem v_fmtI (h : i.natAbs.log2 < 1920) (q : Q (.str (toString i)) H) : rFmt (.int i) H Q := .inr ⟨i, rfl, h, q⟩
theorem v_fmtS (h : z.length ≤ sizeLine) (q : Q (.str z) H) : rFmt (.str z) H Q := .inl ⟨z, rfl, h, q⟩
theorem v_J (h : (acc ++ z).length ≤ sizeLine) (q : PS (acc ++ z) H) : rJ acc (.str z) H PS := ⟨z, rfl, h, q⟩
/-- x.partition(s) -/
theorem v_partY {s : Nat} {b : List Nat} (hz : l.length ≤ 1000000) (h : l.dropWhile (· ≠ s) = s :: b) (q : ∀ p H2, H p = none → Ext H H2 → H2 p = some (.tup [.str (S (l.takeWhile (· ≠ s))), .str (S [s]), .str (S b)]) → Q (.ref p) H2) : rPartn (.str (S l)) [.str (S [s])] H Q := by
  refine ⟨S l, S [s], rfl, rfl, rfl, by rw [S_len, sizeLine_eq]; omega, fun p hp => q p _ hp (Ext.new hp) ?_⟩
  have e : Txt.partition (S l) (S [s]) = (S (l.takeWhile (· ≠ s)), S [s], S b) := SX.partition_some (by simp) (by rw [par_one, h]; simp)
  rw [upd_same, e]
theorem v_partN {s : Nat} (hz : l.length ≤ 1000000) (h : l.dropWhile (· ≠ s) = []) (q : ∀ p H2, H p = none → Ext H H2 → H2 p = some (.tup [.str (S l), .str (S []), .str (S [])]) → Q (.ref p) H2) : rPartn (.str (S l)) [.str (S [s])] H Q := by
  refine ⟨S l, S [s], rfl, rfl, rfl, by rw [S_len, sizeLine_eq]; omega, fun p hp => q p _ hp (Ext.new hp) ?_⟩
  have e : Txt.partition (S l) (S [s]) = (S l, S [], S []) := SX.partition_none (by simp) (by rw [par_one, h])
  rw [upd_same, e]
/-- x.split(s) -/
theorem v_split {s : Nat} (hs : s < 256) (hz : l.length ≤ 1000000) (q : ∀ p H2, H p = none → Ext H H2 → H2 p = some (.lst ((parts s l).map fun x => V.str (S x))) → Q (.ref p) H2) : rSplit (.str (S l)) [.str (S [s])] H Q := by
  refine ⟨S l, S [s], rfl, rfl, rfl, by rw [S_len, sizeLine_eq]; omega, fun p hp => q p _ hp (Ext.new hp) ?_⟩
  have e : Txt.split (S l) (S [s]) = (parts s l).map S := by
    rw [SX.split_S (by simp) (by simp [hs]), spl_one]
    cases e : parts s l with
    | nil => exact absurd e (parts_ne s l)
    | cons p ps => simp
  rw [upd_same, e, List.map_map]
  rfl
theorem v_slTo (hz : l.length ≤ 1000000) (q : Q (.str (S (l.take n))) H) : uSl K (.str (S l)) none (some (n : Int)) H Q := by
  refine .inr (.inr ⟨S l, rfl, by rw [S_len, sizeLine_eq]; omega, ?_⟩)
  have e : cutS (S l) none (some (n : Int)) = S (l.take n) := by
    unfold cutS
    rw [HT.sIx_nat, HT.sIx_none, S_len, S_cps, List.drop_zero, Nat.sub_zero]
    rcases Nat.le_total n l.length with h | h
    · rw [Nat.min_eq_left h]
    · rw [Nat.min_eq_right h, List.take_length, List.take_of_length_le h]
  rw [e]
  exact q
theorem v_slFrom (hz : l.length ≤ 1000000) (q : Q (.str (S (l.drop n))) H) : uSl K (.str (S l)) (some (n : Int)) none H Q := by
  refine .inr (.inr ⟨S l, rfl, by rw [S_len, sizeLine_eq]; omega, ?_⟩)
  have e : cutS (S l) (some (n : Int)) none = S (l.drop n) := by
    unfold cutS
    rw [HT.sIx_nat, HT.sIx_none, S_len, S_cps]
    rcases Nat.le_total n l.length with h | h
    · rw [Nat.min_eq_left h, List.take_of_length_le (by simp)]
    · rw [Nat.min_eq_right h, List.drop_length, List.take_nil, List.drop_of_length_le h]
  rw [e]
  exact q
theorem v_strSI (h : i.natAbs.log2 < 1920) (q : Q (.str (S (GN.itx i))) H) : cStr [.int i] H Q := by
  refine v_strI h ?_
  rw [toStr]
  exact q
theorem v_bare (h : l.length ≤ 1000000) (q : Q (.str (S (GN.bare l))) H) : rRemP (.str (S l)) [.str (S [45])] H Q := by
  refine v_remP (by rw [S_len, sizeLine_eq]; omega) ?_
  rw [remBare]
  exact q
theorem v_lenSS (h : l.length ≤ 1000000) (q : Q (.int (l.length : Int)) H) : cLen K [.str (S l)] H Q := by
  refine v_lenS (by rw [S_len, sizeLine_eq]; omega) ?_
  rw [S_len]
  exact q
theorem v_eqSS (q : Q (.bl (decide (l = m))) H) : uEq K (.str (S l)) (.str (S m)) H Q := by
  refine v_eqS ?_
  rw [S_eq]
  exact q
theorem v_neSS (q : Q (.bl (!decide (l = m))) H) : uNe K (.str (S l)) (.str (S m)) H Q := by
  refine v_neS ?_
  rw [S_eq]
  exact q
instance (priority := high) j_eqSS : St1 (uEq K (.str (S l)) (.str (S m)) H Q) (Q (.bl (decide (l = m))) H) := ⟨v_eqSS⟩
instance (priority := high) j_neSS : St1 (uNe K (.str (S l)) (.str (S m)) H Q) (Q (.bl (!decide (l = m))) H) := ⟨v_neSS⟩
theorem v_addSS {b : List Nat} (h : l.length + b.length ≤ 1000000) (q : Q (.str (S (l ++ b))) H) : uAdd K (.str (S l)) (.str (S b)) H Q := by
  refine v_addS (by rw [S_len, S_len]; exact h) ?_
  rw [S_app]
  exact q
theorem v_isdg (h : ∀ c ∈ l, c < 128) (q : Q (.bl (!l.isEmpty && l.all GN.digit)) H) : rIsDg (.str (S l)) [] H Q := by
  refine ⟨S l, rfl, rfl, trivial, ?_⟩
  have e : Txt.isdigit (S l) = (!l.isEmpty && l.all GN.digit) := by
    have e1 : ∀ c, c < 128 → Unicode.isDigit c = GN.digit c := by decide +kernel
    unfold Txt.isdigit
    rw [S_len, ← Array.all_toList]
    show (decide (l.length > 0) && l.all Unicode.isDigit) = _
    congr 1
    · cases l <;> simp
    · rw [Bool.eq_iff_iff, List.all_eq_true, List.all_eq_true]
      exact ⟨fun z c hc => by rw [← e1 c (h c hc)]; exact z c hc, fun z c hc => by rw [e1 c (h c hc)]; exact z c hc⟩
  rw [e]
  exact q
def rStrI (v : V) (H : Hp) (R : It → Hp → Prop) : Prop := ∃ x, v = .str x ∧ R (Its x) H
instance i_istr : St1 (iStr te σ H R) (te σ H fun v H1 => rStrI v H1 R) := ⟨fun h => h⟩
instance j_istr : St1 (rStrI (.str z) H R) (R (Its z) H) := ⟨fun h => ⟨z, rfl, h⟩⟩
/-- for c in text -/
theorem f_str {nx bk ct : L2.St → Hp → Prop} {rt : VK} {t : TS} {g : TG} (Pv : Nat → L2.St → Hp → Prop) (h0 : Pv 0 σ H)
    (hs : ∀ i c σ H, l[i]? = some c → Pv i σ H → g (.str (S [c])) σ H fun σ2 H2 => Run t (Pv (i + 1)) rt nx (Pv (i + 1)) σ2 H2) (hd : ∀ σ H, Pv l.length σ H → nx σ H) : rFor (Its (S l)) g t nx rt bk ct σ H := by
  have hn : (S l).cps.size = l.length := S_len l
  refine f_it (walk_str (z := S l)) Pv h0 (fun _ _ _ _ _ => trivial) (fun i x σ H H' hi hp hy => ?_) (fun σ H hp => hd σ H (by rw [← hn]; exact hp))
  obtain ⟨rfl, c, hc, rfl⟩ := hy
  refine hs i c σ H' ?_ hp
  have e : (S l).cps[i]? = l[i]? := by show l.toArray[i]? = _; simp
  rw [← e]
  exact hc
end
end GG

/-! GD: where a token must be out: text.replace, defs that use it, what brings a token out. -/
namespace GG
open PySem PySem.Spec PySem.StrLaws L2 PyProof.Rows
/-- behind e a token is out -/
def PE1 (X : Cx) (e : Expr) (t : TE) : Prop :=
  ∀ (pins : List (Addr × Obj)) (s : Shared) (σ : L2.St) (H : Hp) (Q : VK), L2.Inv X pins σ H s → t σ H Q → wpAny (model X.prog X.w) X.A (eval e X.env) (fun v s1 => 1 ≤ s1.toks ∧ EP X pins σ Q v s1) X.xe s
section
variable {X : Cx} {a b o : Expr} {rest es : List Expr} {ta tb to : TE} {t : TA} {pos p apos : Pos} {i : Int} {j k : Nat} {e : Expr} {te : TE} {x : Str} {sp : Sp} {dvs : List V} {E : L2.St → XK} {ps : List Str}
theorem pe1_int : PE1 X (.Constant (.int i) j pos) (tC (.int i)) := fun pins s σ H Q I h => wpAny_Constant_int ⟨by show 1 ≤ s.toks + 1; omega, .int i, H, I.tok _, ⟨_, rfl⟩, h⟩
theorem pe1_un {op : UnaryOp} {r : V → Hp → VK → Prop} (ho : UnR X (unaryOp op) r) (ha : PE1 X a ta) : PE1 X (.UnaryOp op a pos) (tUn r ta) := by
  intro pins s σ H Q I h
  refine UnaryOp_ (wpAny_mono (ha pins s σ H _ I h) (fun v s1 q => ?_) fun _ _ z => z)
  obtain ⟨h1, x, H1, I1, r1, q1⟩ := q
  exact PySem.wpAny_with_toks h1 (wpAny_mono (ho pins s1 σ H1 x v Q I1 r1 q1) (fun _ _ z hk => ⟨hk, z⟩) fun _ _ z _ => z)
theorem pe1_cmp {op : CmpOp} {r : R2} (ho : OpR X (compareOp op) r) (ha : PE X a ta) (hb : PE1 X b tb) (hm : behindInMarks op b = false) : PE1 X (.Compare a [op] [b] pos) (tOp r ta tb) := by
  intro pins s σ H Q I h
  refine wpAny_Compare1 (thn (ha.run pins s σ H _ I h) fun v s1 ⟨x, H1, I1, r1, q1⟩ => wpAny_mono (hb pins s1 σ H1 _ I1 q1) (fun u s2 q => ?_) fun _ _ z => z) hm
  obtain ⟨h1, y, H2, I2, r2, q2⟩ := q
  exact PySem.wpAny_with_toks h1 (wpAny_mono (ho pins s2 σ H2 x y v u Q I2 r1 r2 q2) (fun _ _ z hk => ⟨hk, z⟩) fun _ _ z _ => z)
theorem pe1_op {op : Operator} {r : R2} (ho : OpR X (binaryOp op) r) (ha : PE X a ta) (hb : PE1 X b tb) : PE1 X (.BinOp a op b pos) (tOp r ta tb) := by
  intro pins s σ H Q I h
  refine wpAny_BinOp (thn (ha.run pins s σ H _ I h) fun v s1 ⟨x, H1, I1, r1, q1⟩ => wpAny_mono (hb pins s1 σ H1 _ I1 q1) (fun u s2 q => ?_) fun _ _ z => z)
  obtain ⟨h1, y, H2, I2, r2, q2⟩ := q
  exact PySem.wpAny_with_toks h1 (wpAny_mono (ho pins s2 σ H2 x y v u Q I2 r1 r2 q2) (fun _ _ z hk => ⟨hk, z⟩) fun _ _ z _ => z)
theorem pet_one {op : BoolOp} (h : PET X a ta) : PET X (.BoolOp op [a] pos) ta := fun pins s σ H Q h0 I hw => BoolOp_one (h pins s σ H Q h0 I hw)
theorem pet_and (ha : PET X a ta) (hb : PET X (.BoolOp .And (b :: rest) pos) tb) : PET X (.BoolOp .And (a :: b :: rest) pos) (tAndV ta tb) := by
  intro pins s σ H Q h0 I h
  refine BoolOp_and (PySem.wpAny_with_toks h0 (wpAny_mono (ha pins s σ H _ h0 I h) (fun v s1 q hk => ?_) fun _ _ z _ => z))
  obtain ⟨x, H1, I1, r1, q1⟩ := q
  obtain ⟨d, rfl, q1⟩ := q1
  cases r1
  refine wpAny_truthy_bool ?_
  cases d with
  | true => exact hb pins s1 σ H1 Q hk I1 q1
  | false => exact ⟨.bl false, H1, I1, rfl, q1⟩
/-- a and ..: behind a a token is out -/
theorem pe_and1 (ha : PE1 X a ta) (hb : PET X (.BoolOp .And (b :: rest) pos) tb) : PE X (.BoolOp .And (a :: b :: rest) pos) (tAndV ta tb) := by
  refine ⟨fun pins s σ H Q I h => ?_⟩
  refine BoolOp_and (wpAny_mono (ha pins s σ H _ I h) (fun v s1 q => ?_) fun _ _ z => z)
  obtain ⟨hk, x, H1, I1, r1, q1⟩ := q
  obtain ⟨d, rfl, q1⟩ := q1
  cases r1
  refine wpAny_truthy_bool ?_
  cases d with
  | true => exact hb pins s1 σ H1 Q hk I1 q1
  | false => exact ⟨.bl false, H1, I1, rfl, q1⟩
/-- f(e, ..), a token being out -/
theorem pet_fn (F : Fn X.prog X.w X.K X.mg X.base x k ps dvs sp) (hr : Room k X.A) (hx : Ps X E) (ha : PAT X (e :: es) t) (hg : Gl X x := by rfl) (hdb : (x == ("__debug__" : Str)) = false := by decide)
    (he : starEach (e :: es) X.env = (false, eval e X.env) :: starEach es X.env := by rfl) (hpl : (backTo pos (starEach es X.env)).any (·.1) = false := by rfl) :
    PET X (.Call (.Name x p) (e :: es) [] pos) (tCallSD sp dvs E t) := by
  obtain ⟨f, fd, ds, F, hm, hk, hb, hd⟩ := F.ex
  intro pins s σ H Q h0 I h
  refine wpAny_Call_Name_kw (ld_glob I hg hm ?_ hdb)
  refine PySem.W.callWith_K (h₀ := X.base) I.ok.mod.kin hk (thn (ha pos pins s σ H _ h0 I h) fun us s1 ⟨vs, H1, I1, r, q⟩ => ⟨I1.kIn, ?_⟩) he hpl
  exact run_fnSD F hr hb hd (hx σ) I1 r q
/-- a def that wants a token out -/
def FnOkT (P : Program) (w : World) (K : PySem.W.Frag) (mg : Str → Option Value) (base : Heap) (k : Nat) (f : Addr) (fd : FuncData) (ps : List Str) (sp : Sp) : Prop :=
  (∀ vs H Q E, sp vs H Q E → vs.length = ps.length) ∧ ∀ (A : Around) (outer : List Env) (s : Shared) (H : Hp) (args : Args) (us : List Value) (vs : List V) (Q : VK) (E : XK), 1 ≤ s.toks → Room k A → Env0 P w K mg base A outer s H → BindsTo s fd args (ps.zip us) → Vals vs us → sp vs H Q E →
    codeAny (model P w) A (.call (.ref f) args) (CR (L2N.CX P w) outer P w H s Q E) s
structure FnT (P : Program) (w : World) (K : PySem.W.Frag) (mg : Str → Option Value) (base : Heap) (x : Str) (k : Nat) (ps : List Str) (sp : Sp) : Prop where
  ex : ∃ f fd, FnOkT P w K mg base k f fd ps sp ∧ mg x = some (.ref f) ∧ PySem.W.keepIn K (.ref f) = true ∧ L2.Binds K fd ps []
theorem pet_fnT (F : FnT X.prog X.w X.K X.mg X.base x k ps sp) (hr : Room k X.A) (hx : Ps X E) (ha : PAT X (e :: es) t) (hg : Gl X x := by rfl) (hdb : (x == ("__debug__" : Str)) = false := by decide)
    (he : starEach (e :: es) X.env = (false, eval e X.env) :: starEach es X.env := by rfl) (hpl : (backTo pos (starEach es X.env)).any (·.1) = false := by rfl) :
    PET X (.Call (.Name x p) (e :: es) [] pos) (tCallSD sp [] E t) := by
  obtain ⟨f, fd, ⟨len, F⟩, hm, hk, hb⟩ := F.ex
  intro pins s σ H Q h0 I h
  refine wpAny_Call_Name_kw (ld_glob I hg hm ?_ hdb)
  refine PySem.W.callWith_K (h₀ := X.base) I.ok.mod.kin hk (PySem.wpAny_with_toks h0 (wpAny_mono (ha pos pins s σ H _ h0 I h) (fun us s1 qq h1 => ?_) fun _ _ z _ => z)) he hpl
  obtain ⟨vs, H1, I1, r, q⟩ := qq
  refine ⟨I1.kIn, ?_⟩
  have q' : sp vs H1 Q (E σ) := by rw [List.append_nil] at q; exact q
  have hl : us.length = ps.length := by rw [← r.length]; exact len _ _ _ _ q'
  refine wpAny_call (codeAny_mono (F X.A X.stack s1 H1 ⟨us, []⟩ us vs Q (E σ) h1 hr I1.env0 (by have := hb s1 us I1.kIn (by rw [List.append_nil]; exact hl); rw [List.append_nil] at this; exact this) r q') fun r s' hq => ?_)
  cases r with
  | error e => exact hx σ pins H1 s1 e s' I1 hq
  | ok fl =>
    cases fl with
    | ret u => exact I1.after hq
    | next => exact False.elim hq
    | brk => exact False.elim hq
    | cont => exact False.elim hq
/-- e.split(), a token being out -/
def rWords (x : V) (H : Hp) (Q : VK) : Prop := ∃ a, x = .str a ∧ [] = ([] : List V) ∧ a.length + 2 ≤ sizeLine ∧ rNewStrs (Txt.words a) H Q
def tWords (to : TE) : TE := fun σ H Q => to σ H fun x H1 => rWords x H1 Q
theorem pet_words (ho : PET X o to) (hbase : attributeBase o "split" X.env (eval o X.env) = eval o X.env := by rfl) (hline : (apos.endLine == pos.line) = true := by rfl) : PET X (.Call (.Attribute o "split" apos) [] [] pos) (tWords to) := by
  intro pins s σ H Q h0 I h
  refine PySem.Call_method0 hbase hline (thn (ho pins s σ H _ h0 I h) fun v s1 ⟨x, H1, I1, r1, q1⟩ => ?_)
  obtain ⟨a, rfl, e2, hz, q2⟩ := q1
  obtain ⟨t, rfl⟩ := _root_.id r1
  exact ⟨"str", _, F.plainAttrs_str, F.slot_str_split, F.type_str_split, typeIs_str _ _ _, (fun _ e => nomatch e), Calls.callWith_builtin rfl (PySem.evalArgs_none (mt_words pins s1 σ H1 _ [] _ [] Q I1 r1 .nil ⟨a, rfl, rfl, hz, q2⟩))⟩
end
theorem pit_listK (K : PySem.W.Frag) {X : Cx} {tg e : Expr} {te : TE} (h : PIT X tg e (iList X.K te)) (hK : X.K = K := by rfl) : PIT X tg e (iList K te) := by subst hK; exact h
def rReplC (y z : Str) (v : V) (H : Hp) (Q : VK) : Prop := ∃ x, v = .str x ∧ x.length + (x.length + 1) * z.length ≤ 16777216 ∧ Q (.str (Txt.replace x y z)) H
section
variable {σ : L2.St} {H : Hp} {Q : VK} {to : TE} {y z : Str}
instance i_replC : St1 (CwR.tReplC to y z σ H Q) (to σ H fun v H1 => rReplC y z v H1 Q) := ⟨fun h => h⟩
instance i_words : St1 (tWords to σ H Q) (to σ H fun x H1 => rWords x H1 Q) := ⟨fun h => h⟩
/-- one sign replaced -/
def rep1 (s : Nat) (m : List Nat) (l : List Nat) : List Nat := l.flatMap fun b => if b = s then m else [b]
theorem rep1_len (s : Nat) (m : List Nat) : ∀ (l : List Nat), (rep1 s m l).length ≤ (m.length + 1) * l.length
  | [] => by simp [rep1]
  | d :: l => by
    have ih := rep1_len s m l
    have e : rep1 s m (d :: l) = (if d = s then m else [d]) ++ rep1 s m l := by simp [rep1]
    rw [e, List.length_append, List.length_cons, Nat.mul_succ]
    have : (if d = s then m else [d]).length ≤ m.length + 1 := by split <;> simp
    omega
theorem repl_one {s : Nat} {m : List Nat} : ∀ (l : List Nat), replL [s] m l = rep1 s m l
  | [] => replL_nil
  | b :: r => by
    by_cases h : b = s
    · subst h
      rw [replL_hit (by simp) (by simp), List.length_singleton, List.drop_one, List.tail_cons, repl_one r]
      simp [rep1]
    · rw [replL_miss (by simp; exact h), repl_one r]
      simp [rep1, h]
theorem v_wordsS {l : List Nat} {ws : List (List Nat)} (hz : l.length ≤ 1000000) (e : Txt.words (S l) = ws.map S) (q : ∀ p H2, H p = none → Ext H H2 → H2 p = some (.lst (ws.map fun t => V.str (S t))) → Q (.ref p) H2) : rWords (.str (S l)) H Q := by
  refine ⟨S l, rfl, rfl, by rw [S_len, sizeLine_eq]; omega, fun p hp => q p _ hp (Ext.new hp) ?_⟩
  rw [upd_same, e, List.map_map]
  rfl
theorem v_repl1 {s : Nat} {m l : List Nat} (h : l.length + (l.length + 1) * m.length ≤ 16777216) (q : Q (.str (S (rep1 s m l))) H) : rReplC (S [s]) (S m) (.str (S l)) H Q := by
  refine ⟨S l, rfl, by rw [S_len, S_len]; exact h, ?_⟩
  have e : Txt.replace (S l) (S [s]) (S m) = S (rep1 s m l) := by
    rw [S_of (Txt.replace (S l) (S [s]) (S m)), replace_list (by show 1 ≤ (S [s]).length; rw [S_len]; simp), S_cps, S_cps, S_cps, repl_one]
  rw [e]
  exact q
end
theorem Fun.okT {P : Program} {w : World} {K : PySem.W.Frag} {mg : Str → Option Value} {base : Heap} {x qual : Str} {st : Stmt} {f : Addr} {fd : FuncData} {N ps : List Str} {k : Nat} {sp : Sp} (F : Fun K x qual st f fd) (S : FnScope N ps (defScope st)) (len : ∀ vs H Q E, sp vs H Q E → vs.length = ps.length)
    (hbody : ∀ (cdv : Value) (A : Around) (outer : List Env) (s : Shared) (H : Hp) (vs : List V) (Q : VK) (E : XK), Room k (A.deeper (envOfC qual (defScope st) s.heap.objs.size f cdv)) → sp vs H Q E →
      ∃ t, PSsT (cxOf (L2N.CX P w) P w K mg base N qual (defScope st) f cdv A outer s H E) (defBody st) t ∧ t { nx := fun _ H' => Q .non H', rt := Q } (start N vs) H) : FnOkT P w K mg base (k + 1) f fd ps sp := by
  obtain ⟨oc, od, kV, doc, pm, an, cdv, ct, osl, rfl, lk, hcd⟩ := F.ex
  refine ⟨len, fun A outer s H args us vs Q E h0 hr e0 hb r hsp => ?_⟩
  have hl := len _ _ _ _ hsp
  have KX : K.In s.heap := e0.mod.kin.keeps fun b o e => (e0.bs b o e).1
  have lim : s.heap.NoLimit := e0.mod.nolimit.keeps fun b o e => (e0.bs b o e).1
  have hkind : ∀ y ∈ ps.zip us, (defScope st).names.lookup y.1 = some .local ∨ ((defScope st).names.lookup y.1 = some .cell ∧ ((cellsFrom (s.heap.objs.size + 1) (defScope st).names []).lookup y.1).isSome = true) := fun ⟨n, v⟩ hy => by
    rcases S.par n (List.of_mem_zip hy).1 with q | q
    · exact .inl q
    · exact .inr ⟨q, PySem.W.cellsFrom_some _ _ _ (.inl q)⟩
  refine codeAny_call_function hr.depth (KX _ _ lk) rfl S.co S.gen rfl (PySem.W.codeRec_of KX hcd) (hb _ _ _ _ ?_)
  refine PySem.wpAny_with_toks h0 (wpAny_newFunctionEnv_cells S.kind hkind fun env he s1 x h1 => ?_)
  subst he
  refine ⟨lim.keeps x.toInCall.keep, codeAny_func ?_⟩
  obtain ⟨t, ht, hq⟩ := hbody cdv A outer s H vs Q E (hr.deeper _) hsp
  have I : L2.Inv (cxOf (L2N.CX P w) P w K mg base N qual (defScope st) f cdv A outer s H E) [] (start N vs) H s1 := inv_start S hr.hd e0 hl r x
  refine wpAny_mono (ht [] s1 (start N vs) H _ h1 I hq) (fun fl s' hs => ?_) fun e s' hs => hs
  have fin : ∀ {σ' : L2.St} {H' : Hp} {v : V} {u : Value}, L2.Inv (cxOf (L2N.CX P w) P w K mg base N qual (defScope st) f cdv A outer s H E) [] σ' H' s' → RelV v u → Q v H' → CE outer P w H s Q u s' :=
    fun {σ' H' v u} J rv q => ⟨v, H', J.os, J.bare, J.base, J.hok, rv, q⟩
  cases fl with
  | ret u =>
    obtain ⟨v, σ', H', J, rv, q⟩ := hs
    exact fin J rv q
  | next =>
    obtain ⟨σ', H', J, q⟩ := hs
    exact fin (v := V.non) (u := Value.none) J rfl q
  | brk =>
    obtain ⟨_, _, _, q⟩ := hs
    exact False.elim q
  | cont =>
    obtain ⟨_, _, _, q⟩ := hs
    exact False.elim q
end GG

/-! GJ: match of a list or a tuple by patterns of written texts and names. -/
namespace GG
open PySem PySem.Spec L2 PyProof.Rows
/-- a pattern of one item: a text, one of several texts, a name (its slot) -/
inductive IP where
  | lit (y : Str) | ors (ys : List Str) | cap (i : Nat)
abbrev Bs := Option (List (Nat × V))
def IP.rd : IP → V → (Bs → Prop) → Prop
  | .lit y, v, k => ∃ x, v = .str x ∧ k (if x = y then some [] else none)
  | .ors ys, v, k => ∃ x, v = .str x ∧ k (if x ∈ ys then some [] else none)
  | .cap i, v, k => k (some [(i, v)])
/-- the bound names are slots -/
def RB (X : Cx) : Bs → Option (List (Str × Value)) → Prop
  | none, r => r = none
  | some bs, r => ∃ cs, r = some cs ∧ Paired (fun (p : Nat × V) (q : Str × Value) => X.N[p.1]? = some q.1 ∧ Loc X.env.scope q.1 ∧ (X.fn q.1 = true ∨ X.env.scope.names.lookup q.1 = some .local) ∧ RelV p.2 q.2) bs cs
def PP (X : Cx) (p : Pattern) (ip : IP) : Prop :=
  p.isStar = false ∧ ∀ (pins : List (Addr × Obj)) (s : Shared) (σ : L2.St) (H : Hp) (v : V) (u : Value) (k : Bs → Prop) (Q : Option (List (Str × Value)) → Shared → Prop), L2.Inv X pins σ H s → RelV v u → ip.rd v k → (∀ r r' s', L2.Inv X pins σ H s' → k r → RB X r r' → Q r' s') →
    wpAny (model X.prog X.w) X.A (matchPattern p X.env u) Q X.xe s
section
variable {X : Cx} {y : Str} {j : Nat} {cp pos : Pos}
theorem lit_ok (hu : X.A.units + 64 < cLine) {pins : List (Addr × Obj)} {s : Shared} {σ : L2.St} {H : Hp} {x : Str} {u : Value} {Q : Option (List (Str × Value)) → Shared → Prop} (I : L2.Inv X pins σ H s) (r : RelV (.str x) u)
    (h : ∀ s', L2.Inv X pins σ H s' → Q (if x = y then some [] else none) s') : wpAny (model X.prog X.w) X.A (matchPattern (.MatchValue (.Constant (.str y) j cp) pos) X.env u) Q X.xe s := by
  refine wpAny_matchPattern_Value (Calls.Constant_str ?_)
  have I1 : L2.Inv X pins σ H { s with toks := s.toks + 1 } := I.tok _
  refine thn ((u_eq X.K hu) pins _ σ H (.str x) (.str y) u _ (fun v H' => v = .bl (decide (x = y)) ∧ H' = H) I1 r ⟨_, rfl⟩ (v_eqS ⟨rfl, rfl⟩)) fun d s2 hz => ?_
  obtain ⟨z, H2, I2, r2, ez, eH⟩ := hz
  subst ez
  subst eH
  cases r2
  refine wpAny_truthy_bool ?_
  have := h s2 I2
  by_cases e : x = y
  · rw [if_pos e] at this
    rw [decide_eq_true e]
    exact this
  · rw [if_neg e] at this
    rw [decide_eq_false e]
    exact this
theorem pp_lit (hu : X.A.units + 64 < cLine) : PP X (.MatchValue (.Constant (.str y) j cp) pos) (.lit y) := by
  refine ⟨rfl, fun pins s σ H v u k Q I r h hQ => ?_⟩
  obtain ⟨x, rfl, h⟩ := h
  refine lit_ok hu I r fun s' I' => ?_
  refine hQ _ _ s' I' h ?_
  by_cases e : x = y
  · rw [if_pos e]
    exact ⟨[], by rw [if_pos e], .nil⟩
  · rw [if_neg e]
    show _ = none
    rw [if_neg e]
/-- the patterns of an or-pattern -/
inductive PO (X : Cx) : List Pattern → List Str → Prop where
  | nil : PO X [] []
  | cons {y : Str} {j : Nat} {cp pos : Pos} {ps : List Pattern} {ys : List Str} (h : PO X ps ys) : PO X (.MatchValue (.Constant (.str y) j cp) pos :: ps) (y :: ys)
theorem first_ok (hu : X.A.units + 64 < cLine) {pins : List (Addr × Obj)} {σ : L2.St} {H : Hp} {x : Str} {u : Value} (r : RelV (.str x) u) {ps : List Pattern} {ys : List Str} (hp : PO X ps ys) : ∀ {s : Shared} {Q : Option (List (Str × Value)) → Shared → Prop}, L2.Inv X pins σ H s →
    (∀ s', L2.Inv X pins σ H s' → Q (if x ∈ ys then some [] else none) s') → wpAny (model X.prog X.w) X.A (matchFirst ps X.env u) Q X.xe s := by
  induction hp with
  | nil =>
    intro s Q I h
    have := h s I
    rw [if_neg (by simp)] at this
    exact wpAny_matchFirst_nil this
  | @cons y j cp pos ps ys hp ih =>
    intro s Q I h
    refine wpAny_matchFirst_cons (lit_ok hu I r fun s' I' => ?_)
    by_cases e : x = y
    · rw [if_pos e]
      have := h s' I'
      rw [if_pos (by rw [e]; exact List.mem_cons_self ..)] at this
      exact this
    · rw [if_neg e]
      refine ih I' fun s2 I2 => ?_
      have := h s2 I2
      by_cases e2 : x ∈ ys
      · rw [if_pos (List.mem_cons_of_mem _ e2)] at this
        rw [if_pos e2]
        exact this
      · rw [if_neg (fun z => by rcases List.mem_cons.mp z with z | z; exact e z; exact e2 z)] at this
        rw [if_neg e2]
        exact this
theorem pp_or (hu : X.A.units + 64 < cLine) {ps : List Pattern} {ys : List Str} (hp : PO X ps ys) (hn : namesOfAll (ps.take 1) = [] := by rfl) : PP X (.MatchOr ps pos) (.ors ys) := by
  refine ⟨rfl, fun pins s σ H v u k Q I r h hQ => ?_⟩
  obtain ⟨x, rfl, h⟩ := h
  refine wpAny_matchPattern_Or (first_ok hu r hp I fun s' I' => ?_)
  by_cases e : x ∈ ys
  · rw [if_pos e] at h ⊢
    refine hQ _ _ s' I' h ⟨[], ?_, .nil⟩
    rw [hn]
    rfl
  · rw [if_neg e] at h ⊢
    exact hQ _ _ s' I' h rfl
theorem pp_cap {i : Nat} {x : Str} (hi : X.N[i]? = some x) (hx : Loc X.env.scope x) (hf : X.fn x = true ∨ X.env.scope.names.lookup x = some .local := by first | exact .inl rfl | exact .inr rfl | assumption) : PP X (.MatchAs none (some x) pos) (.cap i) := by
  refine ⟨rfl, fun pins s σ H v u k Q I r h hQ => ?_⟩
  exact wpAny_matchPattern_Capture (hQ _ _ s I h ⟨[(x, u)], rfl, .cons ⟨hi, hx, hf, r⟩ .nil⟩)
end
def seqR : List IP → List V → (Bs → Prop) → Prop
  | [], [], k => k (some [])
  | p :: ps, v :: vs, k => p.rd v fun r => match r with
    | none => k none
    | some bs => seqR ps vs fun r' => match r' with
      | none => k none
      | some more => k (some (bs ++ more))
  | _, _, _ => False
/-- a pattern of a whole sequence -/
def rSeqP (ips : List IP) (vs : List V) (k : Bs → Prop) : Prop := if vs.length = ips.length then seqR ips vs k else k none
inductive PPs (X : Cx) : List Pattern → List IP → Prop where
  | nil : PPs X [] []
  | cons {p : Pattern} {ip : IP} {ps : List Pattern} {ips : List IP} (h : PP X p ip) (t : PPs X ps ips) : PPs X (p :: ps) (ip :: ips)
theorem PPs.len {X : Cx} {ps : List Pattern} {ips : List IP} (h : PPs X ps ips) : ps.length = ips.length := by
  induction h with
  | nil => rfl
  | cons _ _ ih => simp [ih]
section
variable {X : Cx}
theorem paired_app2 {α β : Type} {R : α → β → Prop} : ∀ {as : List α} {bs : List β} {cs : List α} {ds : List β}, Paired R as bs → Paired R cs ds → Paired R (as ++ cs) (bs ++ ds)
  | _, _, _, _, .nil, h => h
  | _, _, _, _, .cons r t, h => .cons r (paired_app2 t h)
theorem each_ok {pins : List (Addr × Obj)} {σ : L2.St} {H : Hp} {ps : List Pattern} {ips : List IP} (hp : PPs X ps ips) : ∀ {vs : List V} {us : List Value} {s : Shared} {k : Bs → Prop} {Q : Option (List (Str × Value)) → Shared → Prop}, L2.Inv X pins σ H s → Vals vs us → seqR ips vs k →
    (∀ r r' s', L2.Inv X pins σ H s' → k r → RB X r r' → Q r' s') → wpAny (model X.prog X.w) X.A (matchEach ps X.env us) Q X.xe s := by
  induction hp with
  | nil =>
    intro vs us s k Q I r h hQ
    cases vs with
    | nil => exact wpAny_matchEach_nil (hQ _ _ s I h ⟨[], rfl, .nil⟩)
    | cons v vs => exact h.elim
  | @cons p ip ps ips h1 h2 ih =>
    intro vs us s k Q I r h hQ
    cases r with
    | nil => exact h.elim
    | cons rv rt =>
      refine wpAny_matchEach_cons ?_ h1.1
      refine h1.2 pins s σ H _ _ _ _ I rv h fun r1 r1' s1 I1 k1 b1 => ?_
      cases r1 with
      | none =>
        rw [show r1' = none from b1]
        exact hQ _ _ s1 I1 k1 rfl
      | some bs =>
        obtain ⟨cs, rfl, pc⟩ := b1
        refine ih I1 rt k1 fun r2 r2' s2 I2 k2 b2 => ?_
        cases r2 with
        | none =>
          rw [show r2' = none from b2]
          exact hQ _ _ s2 I2 k2 rfl
        | some more =>
          obtain ⟨ds, rfl, pd⟩ := b2
          exact hQ _ _ s2 I2 k2 ⟨cs ++ ds, rfl, paired_app2 pc pd⟩
/-- a match's subject: a list or a tuple -/
def SqA (K : PySem.W.Frag) (H : Hp) (a : Addr) (vs : List V) : Prop := SqL K H a vs ∨ SqT K H a vs
theorem seq_ok (hc : X.calm = true) {pins : List (Addr × Obj)} {σ : L2.St} {H : Hp} {ps : List Pattern} {ips : List IP} {pos : Pos} (hp : PPs X ps ips) (hstar : ps.findIdx? (·.isStar) = none) (hwild : (ps.all fun p => p.isWildcard || (p.isStar && p.names.isEmpty)) = false)
    {a : Addr} {vs : List V} {s : Shared} {k : Bs → Prop} {Q : Option (List (Str × Value)) → Shared → Prop} (I : L2.Inv X pins σ H s) (hs : SqA X.K H a vs) (h : rSeqP ips vs k) (hQ : ∀ r r' s', L2.Inv X pins σ H s' → k r → RB X r r' → Q r' s') :
    wpAny (model X.prog X.w) X.A (matchPattern (.MatchSequence ps pos) X.env (.ref a)) Q X.xe s := by
  have hl := hp.len
  unfold rSeqP at h
  rcases hs with hs | hs
  · obtain ⟨its, rv, pl, hz⟩ := I.list hs
    have hL := pl.isList
    have hlen := rv.length
    have hsz : its.toArray.size = vs.length := by simp [hlen]
    refine wpAny_matchPattern_Sequence (wpAny_collectionFlag hL.typeIs flag_seq_list ?_) hstar hwild
    rw [if_pos rfl]
    refine pyLen_list hL (by have := sizeLine_eq; rw [hsz]; omega) ?_
    rw [hsz, hl]
    have I1 : L2.Inv X pins σ H { s with toks := s.toks + 1 + 1 } := I.tok _
    by_cases e : vs.length = ips.length
    · rw [if_pos e] at h
      rw [e, if_neg (by simp)]
      have := PySem.W.kun_itemsOf (prog := X.prog) (w := X.w) (E := X.xe) (s := { s with toks := s.toks + 1 + 1 }) (I.ok.hd hc) hL (Q := fun vs s₃ => wpAny (model X.prog X.w) X.A (matchEach ps X.env vs) Q X.xe s₃) fun h' he => ?_
      · rw [hsz, e] at this
        exact this
      · refine each_ok hp (I1.kept (t' := s.toks + 1 + 1) fun b o z => he b o (Nat.ne_of_lt (Heap.lt_size z)) z) (by simpa using rv) h hQ
    · rw [if_neg e] at h
      rw [if_pos (by simp; omega)]
      exact hQ _ _ _ I1 h rfl
  · obtain ⟨its, rv, hL, hz⟩ := I.tuple hs
    have hlen := rv.length
    have hsz : its.toArray.size = vs.length := by simp [hlen]
    refine wpAny_matchPattern_Sequence (wpAny_collectionFlag hL.typeIs flag_seq_tuple ?_) hstar hwild
    rw [if_pos rfl]
    refine pyLen_tuple hL (by have := sizeLine_eq; rw [hsz]; omega) ?_
    rw [hsz, hl]
    have I1 : L2.Inv X pins σ H { s with toks := s.toks + 1 + 1 } := I.tok _
    by_cases e : vs.length = ips.length
    · rw [if_pos e] at h
      rw [e, if_neg (by simp)]
      have := unpackItems_tuple (prog := X.prog) (w := X.w) (E := X.xe) (s := { s with toks := s.toks + 1 + 1 }) (I.ok.hd hc) hL (Q := fun vs s₃ => wpAny (model X.prog X.w) X.A (matchEach ps X.env vs) Q X.xe s₃) fun h' he => ?_
      · rw [hsz, e] at this
        exact this
      · refine each_ok hp (I1.kept (t' := s.toks + 1 + 1) fun b o z => he b o (Nat.ne_of_lt (Heap.lt_size z)) z) (by simpa using rv) h hQ
    · rw [if_neg e] at h
      rw [if_pos (by simp; omega)]
      exact hQ _ _ _ I1 h rfl
def setL (σ : L2.St) (bs : List (Nat × V)) : L2.St := bs.foldl (fun σ b => σ.set b.1 (some b.2)) σ
theorem bind_ok (hN : X.N.Nodup) {pins : List (Addr × Obj)} {H : Hp} {bs : List (Nat × V)} {cs : List (Str × Value)} (hp : Paired (fun (p : Nat × V) (q : Str × Value) => X.N[p.1]? = some q.1 ∧ Loc X.env.scope q.1 ∧ (X.fn q.1 = true ∨ X.env.scope.names.lookup q.1 = some .local) ∧ RelV p.2 q.2) bs cs) :
    ∀ {σ : L2.St} {s : Shared} {Q : Unit → Shared → Prop}, L2.Inv X pins σ H s → (∀ s', L2.Inv X pins (setL σ bs) H s' → Q () s') → wpAny (model X.prog X.w) X.A (assignInOrder (cs.map fun (n, _) => bindName X.env n) (cs.map (·.2))) Q X.xe s := by
  induction hp with
  | nil =>
    intro σ s Q I h
    exact wpAny_assignInOrder_none (h s I)
  | @cons p q bs cs r t ih =>
    intro σ s Q I h
    obtain ⟨h1, h2, h3, h4⟩ := r
    refine wpAny_assignInOrder_more ?_
    show wpAny _ _ (bindName X.env q.1 q.2) _ _ s
    unfold bindName
    refine wpAny_bind (wpAny_holding (wpAny_point (wpAny_bind (store_ok I hN h1 h2 h4 (fun s' I' => wpAny_point ?_) h3))))
    exact ih I' fun s2 I2 => h s2 I2
end
/-- the cases, from the first one -/
def rCs : List (List IP × TS) → List V → Ends → L2.St → Hp → Prop
  | [], _, D, σ, H => D.nx σ H
  | (ips, t) :: cs, vs, D, σ, H => rSeqP ips vs fun r => match r with
    | none => rCs cs vs D σ H
    | some bs => t D (setL σ bs) H
inductive PCs (X : Cx) : List MatchCase → List (List IP × TS) → Prop where
  | nil : PCs X [] []
  | cons {ps : List Pattern} {pos : Pos} {body : List Stmt} {rest : List MatchCase} {ips : List IP} {t : TS} {cs : List (List IP × TS)} (hp : PPs X ps ips) (hb : PSs X body t) (hr : PCs X rest cs)
      (hstar : ps.findIdx? (·.isStar) = none := by rfl) (hwild : (ps.all fun p => p.isWildcard || (p.isStar && p.names.isEmpty)) = false := by rfl) : PCs X (⟨.MatchSequence ps pos, none, body⟩ :: rest) ((ips, t) :: cs)
theorem cases_ok {X : Cx} (hc : X.calm = true) (hN : X.N.Nodup) {pins : List (Addr × Obj)} {σ : L2.St} {H : Hp} {a : Addr} {vs : List V} (hs : SqA X.K H a vs) {D : Ends} {cases : List MatchCase} {cs : List (List IP × TS)} (hp : PCs X cases cs) :
    ∀ {s : Shared} {first : Bool}, L2.Inv X pins σ H s → rCs cs vs D σ H → wpAny (model X.prog X.w) X.A (matchCases cases X.env (.ref a) first) (SP X pins D) X.xe s := by
  induction hp with
  | nil =>
    intro s first I h
    exact wpAny_matchCases_nil ⟨σ, H, I, h⟩
  | @cons ps pos body rest ips t cs hp hb hr hstar hwild ih =>
    intro s first I h
    refine wpAny_matchCases_cons (seq_ok hc hp hstar hwild I hs h fun r r' s1 I1 k1 b1 => ?_)
    cases r with
    | none =>
      rw [show r' = none from b1]
      exact ih I1 k1
    | some bs =>
      obtain ⟨ds, rfl, pd⟩ := b1
      refine bind_ok hN pd I1 fun s2 I2 => ?_
      exact hb.run pins s2 _ H D I2 k1
def rMatch (K : PySem.W.Frag) (cs : List (List IP × TS)) (D : Ends) (σ : L2.St) (x : V) (H : Hp) : Prop := ∃ a vs, x = .ref a ∧ SqA K H a vs ∧ rCs cs vs D σ H
def tMatch (K : PySem.W.Frag) (te : TE) (cs : List (List IP × TS)) : TS := fun D σ H => te σ H fun x H1 => rMatch K cs D σ x H1
theorem ps_match (K : PySem.W.Frag) {X : Cx} {e : Expr} {te : TE} {cases : List MatchCase} {cs : List (List IP × TS)} {pos : Pos} (hc : X.calm = true) (hN : X.N.Nodup) (he : PE X e te) (hp : PCs X cases cs) (hK : X.K = K := by rfl) : PS X (.Match e cases pos) (tMatch K te cs) := by
  subst hK
  refine ⟨fun pins s σ H D I h => ?_⟩
  refine wpAny_Match (thn (he.run pins s σ H _ I h) fun u s1 ⟨x, H1, I1, rx, a, vs, ex, hs, q⟩ => ?_)
  subst ex
  obtain rfl : u = Value.ref a := rx
  exact cases_ok hc hN hs hp I1 q
section
variable {K : PySem.W.Frag} {nx bk ct : L2.St → Hp → Prop} {rt : VK} {σ : L2.St} {H : Hp} {te : TE} {cs : List (List IP × TS)} {a : Addr} {vs : List V}
def rCsR (cs : List (List IP × TS)) (vs : List V) (nx : L2.St → Hp → Prop) (rt : VK) (bk ct : L2.St → Hp → Prop) (σ : L2.St) (H : Hp) : Prop := rCs cs vs ⟨nx, rt, bk, ct⟩ σ H
def rMatchR (K : PySem.W.Frag) (cs : List (List IP × TS)) (nx : L2.St → Hp → Prop) (rt : VK) (bk ct : L2.St → Hp → Prop) (σ : L2.St) (x : V) (H : Hp) : Prop := ∃ a vs, x = .ref a ∧ SqA K H a vs ∧ rCsR cs vs nx rt bk ct σ H
instance i_match : St1 (Run (tMatch K te cs) nx rt bk ct σ H) (te σ H fun x H1 => rMatchR K cs nx rt bk ct σ x H1) := ⟨fun h => h⟩
theorem v_matchL (ha : H a = some (.lst vs)) (q : rCsR cs vs nx rt bk ct σ H) : rMatchR K cs nx rt bk ct σ (.ref a) H := ⟨a, vs, rfl, .inl (SqL.of ha), q⟩
theorem v_matchT (ha : H a = some (.tup vs)) (q : rCsR cs vs nx rt bk ct σ H) : rMatchR K cs nx rt bk ct σ (.ref a) H := ⟨a, vs, rfl, .inr (SqT.of ha), q⟩
theorem cs_nil (q : nx σ H) : rCsR [] vs nx rt bk ct σ H := q
/-- another length, or another word ahead -/
theorem cs_len {ips : List IP} {t : TS} (h : ¬ vs.length = ips.length) (q : rCsR cs vs nx rt bk ct σ H) : rCsR ((ips, t) :: cs) vs nx rt bk ct σ H := by
  unfold rCsR rCs rSeqP
  rw [if_neg h]
  exact q
theorem cs_lit {y x : Str} {ips : List IP} {t : TS} (h : ¬ x = y) (q : rCsR cs (.str x :: vs) nx rt bk ct σ H) : rCsR ((.lit y :: ips, t) :: cs) (.str x :: vs) nx rt bk ct σ H := by
  by_cases hl : (V.str x :: vs).length = (IP.lit y :: ips).length
  · unfold rCsR rCs rSeqP
    rw [if_pos hl]
    refine ⟨x, rfl, ?_⟩
    rw [if_neg h]
    exact q
  · exact cs_len hl q
theorem cs_ors {ys : List Str} {x : Str} {ips : List IP} {t : TS} (h : ¬ x ∈ ys) (q : rCsR cs (.str x :: vs) nx rt bk ct σ H) : rCsR ((.ors ys :: ips, t) :: cs) (.str x :: vs) nx rt bk ct σ H := by
  by_cases hl : (V.str x :: vs).length = (IP.ors ys :: ips).length
  · unfold rCsR rCs rSeqP
    rw [if_pos hl]
    refine ⟨x, rfl, ?_⟩
    rw [if_neg h]
    exact q
  · exact cs_len hl q
/-- names for the items behind the first one -/
def capsR : List IP → List V → Option (List (Nat × V))
  | [], [] => some []
  | .cap i :: ps, v :: vs => (capsR ps vs).map ((i, v) :: ·)
  | _, _ => none
theorem caps_ok : ∀ {ips : List IP} {vs : List V} {bs : List (Nat × V)} {k : Bs → Prop}, capsR ips vs = some bs → k (some bs) → seqR ips vs k
  | [], [], bs, k, h, q => by cases h; exact q
  | .cap i :: ps, v :: vs, bs, k, h, q => by
    obtain ⟨cs, hc, rfl⟩ := Option.map_eq_some_iff.mp (show (capsR ps vs).map ((i, v) :: ·) = some bs from h)
    show seqR ps vs _
    exact caps_ok hc q
theorem capsR_len : ∀ {ips : List IP} {vs : List V} {bs : List (Nat × V)}, capsR ips vs = some bs → vs.length = ips.length
  | [], [], _, _ => rfl
  | .cap i :: ps, v :: vs, bs, h => by
    obtain ⟨cs, hc, _⟩ := Option.map_eq_some_iff.mp (show (capsR ps vs).map ((i, v) :: ·) = some bs from h)
    simp [capsR_len hc]
theorem cs_hit {y : Str} {ips : List IP} {t : TS} {bs : List (Nat × V)} {σ' : L2.St} (h : capsR ips vs = some bs) (hσ : setL σ bs = σ') (q : Run t nx rt bk ct σ' H) : rCsR ((.lit y :: ips, t) :: cs) (.str y :: vs) nx rt bk ct σ H := by
  unfold rCsR rCs rSeqP
  rw [if_pos (by simp [capsR_len h])]
  refine ⟨y, rfl, ?_⟩
  rw [if_pos rfl]
  refine caps_ok h ?_
  subst hσ
  exact q
theorem cs_hits {ys : List Str} {y : Str} {ips : List IP} {t : TS} {bs : List (Nat × V)} {σ' : L2.St} (hy : y ∈ ys) (h : capsR ips vs = some bs) (hσ : setL σ bs = σ') (q : Run t nx rt bk ct σ' H) : rCsR ((.ors ys :: ips, t) :: cs) (.str y :: vs) nx rt bk ct σ H := by
  unfold rCsR rCs rSeqP
  rw [if_pos (by simp [capsR_len h])]
  refine ⟨y, rfl, ?_⟩
  rw [if_pos hy]
  refine caps_ok h ?_
  subst hσ
  exact q
end
/-! ### f() -/
section
variable {X : Cx} {k : Nat} {ps : List Str} {dvs : List V} {sp : Sp} {E : L2.St → XK} {x : Str} {p pos : Pos}
theorem pe_fn0 (F : Fn X.prog X.w X.K X.mg X.base x k ps dvs sp) (hr : Room k X.A) (hx : Ps X E) (hg : Gl X x := by rfl) (hdb : (x == ("__debug__" : Str)) = false := by decide) : PE X (.Call (.Name x p) [] [] pos) (tCallSD sp dvs E tNil) := by
  obtain ⟨f, fd, ds, F, hm, hk, hb, hd⟩ := F.ex
  refine ⟨fun pins s σ H Q I h => ?_⟩
  refine wpAny_Call_Name_kw (ld_glob I hg hm ?_ hdb)
  exact PySem.W.callWith_K0 I.kIn hk (run_at (us := []) (vs := []) F hr rfl hb hd (hx σ) I .nil h)
end
/-! ### isinstance with two types -/
section
variable {K : PySem.W.Frag} {H : Hp} {Q : VK} {a b t : String} {r1 r2 : Bool} {x : V} {tp : Addr}
theorem v_isi2 (hT : H tp = some (.tup [.ty a, .ty b])) (ty : TyX K H x (.type t)) (h1 : kitB t a = some r1) (h2 : kitB t b = some r2) (q : Q (.bl (r1 || r2)) H) : rIsiT K [x, .ref tp] H Q := by
  refine ⟨x, tp, _, .type t, [.type a, .type b], r1 || r2, rfl, hT, .cons (.ty a) (.cons (.ty b) .nil), ty, kitAny_cons (kit_ty h1) (fun e => ?_) (fun e => by rw [e]; rfl), q⟩
  refine kitAny_cons (kit_ty h2) (fun e2 => ?_) (fun e2 => by rw [e2, Bool.or_true])
  rw [e, e2]
  rfl
end
/-- [e for x in ..], of each item R, what was stays -/
theorem lcE {J : It} {n : Nat} {G : Hp → Prop} {Y : Nat → Hp → V → Hp → Prop} {σ σw : L2.St} {H : Hp} {g : TG} {te : TE} {vs : List Nat} {Q : VK} (w : Walk J n G Y) [a : WipeS σ vs σw] (hn : n ≤ 1000000) (R : Nat → V → Prop) (hG : ∀ H1, Ext H H1 → G H1) (hY : ∀ i H1 x H1', Y i H1 x H1' → H1' = H1)
    (hs : ∀ i x H1 (k : VK), i < n → Ext H H1 → Y i H1 x H1 → (∀ y H2, Ext H1 H2 → R i y → k y H2) → g x σw H1 fun σ2 H2 => LcK vs σw te k σ2 H2)
    (hd : ∀ D ys H1, H D = none → Ext H H1 → H1 D = some (.lst ys) → ys.length = n → (∀ i y, ys[i]? = some y → R i y) → Q (.ref D) H1) : rLc J g tYes te vs σ H Q := by
  refine lcW w (fun i acc H1 => Ext H H1 ∧ acc.length = i ∧ ∀ j y, acc[j]? = some y → R j y) (fun H1 e => ⟨e, rfl, fun j y h => by simp at h⟩) (fun i acc H1 _ h => hG H1 h.1) ?_ ?_
  · rintro i x D acc H1 H1' hD hi ⟨e, hl, hr⟩ hy h1 hle
    have e1 := hY i H1 x H1' hy
    subst e1
    refine hs i x _ _ hi e hy fun y H2 e2 r2 => ?_
    refine v_accK (e2.look h1) (by omega) (by omega) fun H3 b3 => ⟨b3.ext (e.trans e2) hD, by simp [hl], fun j z hz => ?_⟩
    by_cases hj : j < acc.length
    · rw [List.getElem?_append_left hj] at hz
      exact hr j z hz
    · rw [List.getElem?_append_right (by omega)] at hz
      have : j - acc.length = 0 := by
        cases hjj : j - acc.length with
        | zero => rfl
        | succ m => rw [hjj] at hz; simp at hz
      rw [this] at hz
      obtain rfl : y = z := by simpa using hz
      rw [show j = i by omega]
      exact r2
  · rintro D acc H1 hD h1 hl ⟨e, he, hr⟩
    exact hd D acc H1 hD e h1 he hr
end GG

/-! HK: for i, x in enumerate(list), enumerate(list, start=k); is, is not of bools. -/
namespace GG
open PySem PySem.Spec L2 PyProof.Rows
/-- the list at a as it stands at each turn, each item in a new pair with its number, from k -/
def Itk (K : PySem.W.Frag) (a : Addr) (k : Int) : It :=
  ⟨fun i H => ∃ (xs : List V) (x : V), SqL K H a xs ∧ xs[i]? = some x, fun i H v H' => ∃ T x, v = .ref T ∧ H T = none ∧ H' = upd H T (.tup [.int (k + (i : Nat)), x]) ∧ ∀ xs, SqL K H a xs → xs[i]? = some x, fun i H => ∃ xs : List V, SqL K H a xs ∧ xs.length = i⟩
theorem turn_enumK {P : Program} {w : World} {K : PySem.W.Frag} {elts : List Expr} {kk : Nat} {tpos : Pos} (a e it : Addr) (k : Int) :
    Turn P w K (.Tuple elts kk tpos) (Itk K a k) [e, it] e (fun i h => (∃ old, IsEnum h e it (k + (i : Nat)) old) ∧ h.IsListIter it a i ∧ e ≠ it) where
  mem := by simp
  obj := fun i h st b hb => by
    obtain ⟨⟨old, he⟩, ⟨o, ho, hc, hd⟩, _⟩ := st
    have e' : b = e ∨ b = it := by simpa using hb
    rcases e' with z | z
    · rw [z]; exact ⟨_, he, fun v q => nomatch q⟩
    · rw [z]; exact ⟨o, ho, fun v q => by rw [hd] at q; cases q⟩
  keep := fun i h h' st k => let ⟨⟨old, he⟩, hi, hne⟩ := st; ⟨⟨old, k e (by simp) _ he⟩, hi.at fun o q => k it (by simp) o q, hne⟩
  item := by
    intro X hP hw hK hc i pins s σ H E I hf st hg
    subst hP hw hK
    obtain ⟨⟨old, he⟩, hit, hne⟩ := st
    obtain ⟨xs, x, hq, hx⟩ := hg
    obtain ⟨its, rv, p, hz⟩ := I.list hq
    obtain ⟨u, hu, ru⟩ := rv.get hx
    have hel : e < s.heap.objs.size := Heap.lt_size he
    have hil : it < s.heap.objs.size := by obtain ⟨_, q, _⟩ := hit; exact Heap.lt_size q
    obtain ⟨f0, _⟩ := hf it (by simp)
    have hai : a ≠ it := fun z => by
      obtain ⟨oi, q1, q2, _⟩ := hit
      obtain ⟨ol, r1, r2, _⟩ := p.isList
      rw [z] at r1
      rw [q1] at r1
      cases r1
      rw [q2] at r2
      injection r2 with r3
      exact absurd r3 (by decide)
    have D := Draws.list (prog := X.prog) (w := X.w) (A := X.A.in1) (I.ok.hd hc) it a hai its.toArray
    have hlt : i < its.toArray.size := by
      have h1 := (List.getElem?_eq_some_iff.mp hu).1
      simpa using h1
    have hea : e ∉ [it, a] := by
      intro z
      rcases (show e = it ∨ e = a by simpa using z) with y | y
      · exact hne y
      · obtain ⟨ol, r1, r2, _⟩ := p.isList
        rw [← y, he] at r1
        cases r1
        injection r2 with r3
        exact absurd r3 (by decide)
    refine wpAny_pyNext_enum_itemC D he ⟨hit, p.isList⟩ hlt hne hea fun x0 h' tk hx0 ho hit' hT hsz hk => ?_
    have ex0 : x0 = u := by
      have h1 : its.toArray[i]? = some u := by simpa using hu
      exact Option.some.inj (hx0.symm.trans h1)
    subst ex0
    refine ⟨_, rfl, wpAny_letOwnedTupleGo_enum (s := { s with heap := h', toks := tk + 1 }) ho fun h'' he' sb => ?_⟩
    have hT2 : h''.get? s.heap.objs.size = some { cls := .type "tuple", data := .seq #[.int (k + (i : Nat)) tk, x0] } := (sb.2 _ (Nat.ne_of_gt hel)).trans hT
    have new : ObjOk X.prog X.w (upd H s.heap.objs.size (.tup [.int (k + (i : Nat)), x])) h'' s.heap.objs.size (.tup [.int (k + (i : Nat)), x]) :=
      ⟨by show 2 ≤ sizeLine; decide, [.int (k + (i : Nat)) tk, x0], .cons ⟨_, rfl⟩ (.cons ru .nil), ⟨_, hT2, rfl, _, rfl⟩⟩
    have I1 : L2.Inv X pins σ (upd H s.heap.objs.size (.tup [.int (k + (i : Nat)), x])) { s with heap := h'', toks := tk + 1 } :=
      I.turnedNew (ch := [e, it]) (fun b ob hb q => (sb.2 b (fun z => hb (by simp [z]))).trans (hk b ob (fun z => hb (by simp [z])) (fun z => hb (by simp [z])) q)) hf (Nat.le_refl _) new
    refine ⟨.ref s.heap.objs.size, _, I1, rfl, ⟨_, x, rfl, I.hok.fresh (Nat.le_refl _), rfl, fun ys hy => by rw [I.list_inj hy hq]; exact hx⟩, ⟨⟨x0, ?_⟩, hit'.1.at fun o q => (sb.2 it (Ne.symm hne)).trans q, hne⟩, fun b hb => ?_⟩
    · have e1 : k + ((i + 1 : Nat) : Int) = k + (i : Int) + 1 := by omega
      rw [e1]; exact he'
    · have hb' : b < s.heap.objs.size := by
        have e' : b = e ∨ b = it := by simpa using hb
        rcases e' with z | z
        · rw [z]; exact hel
        · rw [z]; exact hil
      rw [upd_ne (Nat.ne_of_lt hb')]
      exact (hf b hb).1
  done := by
    intro X hP hw hK hc i pins s σ H E I hf st hg
    subst hP hw hK
    obtain ⟨⟨old, he⟩, hit, hne⟩ := st
    obtain ⟨xs, hq, hx⟩ := hg
    obtain ⟨its, rv, p, hz⟩ := I.list hq
    obtain ⟨f0, f1, f2, f3, f4, f5⟩ := hf it (by simp)
    have hai : a ≠ it := fun z => by
      obtain ⟨oi, q1, q2, _⟩ := hit
      obtain ⟨ol, r1, r2, _⟩ := p.isList
      rw [z] at r1
      rw [q1] at r1
      cases r1
      rw [q2] at r2
      injection r2 with r3
      exact absurd r3 (by decide)
    have D := Draws.list (prog := X.prog) (w := X.w) (A := X.A.in1) (I.ok.hd hc) it a hai its.toArray
    have hl := rv.length
    have hi : i = its.toArray.size := by simp; omega
    subst hi
    exact wpAny_pyNext_enum_endD D he ⟨hit, p.isList⟩ fun h' eb => ⟨rfl, I.turned (t' := s.toks) (fun b o hb q => eb b o hb q) f0 f1 f3 f4 f5⟩
  self := fun A i s Q E st h => let ⟨⟨_, he⟩, _⟩ := st; wpAny_pyIter_enum he h
theorem callWith_type_kw {M : Model} {A : Around} {E : Value → Shared → Prop} {s : Shared} {env : Env} {pos : Pos} {T : String} {e : Expr} {rest : List Expr} {kws : List Keyword} {Q : Value → Shared → Prop}
    (h : wpAny M A (spliced (backTo pos (starEach (e :: rest) env))) (fun vs s₁ => wpAny M A (evalAll ((backToKw pos (keywordEach kws env)).map (·.2)))
      (fun kvs s₂ => wpAny M A (call (.type T) vs (((backToKw pos (keywordEach kws env)).filterMap (·.1)).zip kvs)) Q E s₂) E s₁) E s)
    (he : backTo pos (starEach (e :: rest) env) = (false, eval e env) :: backTo pos (starEach rest env) := by rfl)
    (hplain : (backTo pos (starEach (e :: rest) env)).any (·.1) = false := by rfl)
    (hall : (backToKw pos (keywordEach kws env)).all (·.1.isSome) = true := by rfl)
    (hkw : (backToKw pos (keywordEach kws env)).any (·.1.isNone) = false := by rfl) :
    wpAny M A (callWith pos (.type T) [] (backTo pos (starEach (e :: rest) env)) (backToKw pos (keywordEach kws env))) Q E s := by
  have key : wpAny M A (evalArgs (.type T) true (backTo pos (starEach (e :: rest) env)) (backToKw pos (keywordEach kws env))) (fun a s₁ => wpAny M A (call (.type T) ([] ++ a.pos) a.kw) Q E s₁) E s := by
    rw [he] at h ⊢
    exact evalArgs_kwB hall h
  unfold callWith
  refine wpAny_bind (wpAny_holding (wpAny_mono key (fun a s₁ h₁ => wpAny_bind (wpAny_standAt ?_)) fun _ _ x => x))
  simp only [hplain, hkw, Bool.or_false]
  refine wpAny_bind (wpAny_pure ?_)
  exact wpAny_bind (wpAny_mono h₁ (fun r s₂ hr => wpAny_bind (wpAny_holding (wpAny_point (wpAny_pure hr)))) fun _ _ x => x)
def rEnK (K : PySem.W.Frag) (vs zs : List V) (H : Hp) (R : It → Hp → Prop) : Prop := ∃ a xs k, vs = [.ref a] ∧ zs = [.int k] ∧ SqL K H a xs ∧ -(2 ^ 62) ≤ k ∧ k < 2 ^ 62 ∧ R (Itk K a k) H
def iEnumK (K : PySem.W.Frag) (ta tk : TA) : TI := fun σ H R => ta σ H fun vs H1 => tk σ H1 fun zs H2 => rEnK K vs zs H2 R
theorem pi_enumK {X : Cx} (K : PySem.W.Frag) {e ke : Expr} {ta tk : TA} {p pos tpos kp : Pos} {elts : List Expr} {kk : Nat} (hg : Gl X "enumerate") (hm : X.mg "enumerate" = none) (ha : PA X [e] ta) (hk : PK X [⟨some (Str.ofString "start"), ke, kp⟩] tk) (hK : X.K = K := by rfl)
    (he : backTo pos (starEach [e] X.env) = (false, eval e X.env) :: backTo pos (starEach [] X.env) := by rfl) (hpl : (backTo pos (starEach [e] X.env)).any (·.1) = false := by rfl)
    (hall : (backToKw pos (keywordEach [⟨some (Str.ofString "start"), ke, kp⟩] X.env)).all (·.1.isSome) = true := by rfl) (hnone : (backToKw pos (keywordEach [⟨some (Str.ofString "start"), ke, kp⟩] X.env)).any (·.1.isNone) = false := by rfl) (hks : (backToKw pos (keywordEach [⟨some (Str.ofString "start"), ke, kp⟩] X.env)).filterMap (·.1) = [Str.ofString "start"] := by rfl) :
    PI X (.Tuple elts kk tpos) (.Call (.Name "enumerate" p) [e] [⟨some (Str.ofString "start"), ke, kp⟩] pos) (iEnumK K ta tk) := by
  subst hK
  refine ⟨fun pins s σ H R I h => ?_⟩
  refine wpAny_Call_Name_kw (ld_blt I hg hm boot_enumerate ?_ (by decide) (by decide))
  refine callWith_type_kw (thn (ha.run pos pins s σ H _ I h) fun us s1 ⟨vs, H1, I1, r1, q1⟩ => thn (hk.run pos pins s1 σ H1 _ I1 q1) fun ws s2 ⟨zs, H2, I2, r2, q2⟩ => ?_) he hpl hall hnone
  rw [hks]
  obtain ⟨a, xs, k, rfl, rfl, hq, hk0, hk1, q⟩ := q2
  obtain ⟨u, rfl, ru⟩ := vals1 r1
  cases ru
  obtain ⟨w1, rfl, rw1⟩ := vals1 r2
  obtain ⟨t, rfl⟩ := (show ∃ t, w1 = Value.int k t from rw1)
  obtain ⟨its, rv, p', hz⟩ := I2.list hq
  refine enum_begins_start (begins_list a its.toArray) p'.isList (by omega) (by omega) fun h' he hit hsz hk => wpAny_pyIter_enum he ?_
  have I3 : L2.Inv X pins σ H2 { s2 with heap := h' } := I2.kept (t' := s2.toks) hk
  refine ⟨s2.heap.objs.size + 1, [s2.heap.objs.size + 1, s2.heap.objs.size], _, _, H2, rfl, I3, turn_enumK a (s2.heap.objs.size + 1) s2.heap.objs.size k, ⟨⟨.none, ?_⟩, ⟨_, hit, rfl, rfl⟩, Nat.succ_ne_self _⟩, fun b hb => ?_, q⟩
  · rw [show k + ((0 : Nat) : Int) = k by omega]; exact he
  have hle : s2.heap.objs.size ≤ b := by
    rcases (show b = s2.heap.objs.size + 1 ∨ b = s2.heap.objs.size by simpa using hb) with y | y
    · rw [y]; exact Nat.le_add_right _ _
    · rw [y]; exact Nat.le_refl _
  exact I2.fpOk hle (I2.hok.fresh hle)
section
variable {K : PySem.W.Frag} {σ : L2.St} {H : Hp} {a : Addr} {xs : List V} {k : Int} {ta tk : TA} {R : It → Hp → Prop} {nx bk ct : L2.St → Hp → Prop} {rt : VK} {t : TS} {g : TG}
theorem walk_enumK : Walk (Itk K a k) xs.length (fun H => SqL K H a xs) (fun i H v H' => ∃ T x, v = .ref T ∧ H T = none ∧ xs[i]? = some x ∧ H' = upd H T (.tup [.int (k + (i : Nat)), x])) :=
  ⟨fun i _ hi q => ⟨xs, xs[i], q, by simp [hi]⟩, fun _ q => ⟨xs, q, rfl⟩, fun _ _ _ _ _ q y => let ⟨T, x, h1, h2, h3, h4⟩ := y; ⟨T, x, h1, h2, h4 xs q, h3⟩⟩
instance i_enumK : St1 (iEnumK K ta tk σ H R) (ta σ H fun vs H1 => tk σ H1 fun zs H2 => rEnK K vs zs H2 R) := ⟨fun h => h⟩
theorem v_enumK (ha : H a = some (.lst xs)) (h0 : -(2 ^ 62) ≤ k) (h1 : k < 2 ^ 62) (q : R (Itk K a k) H) : rEnK K [.ref a] [.int k] H R := ⟨a, xs, k, rfl, rfl, SqL.of ha, h0, h1, q⟩
/-- enumerate(list) -/
def rEnL (K : PySem.W.Frag) (vs : List V) (H : Hp) (R : It → Hp → Prop) : Prop := ∃ a xs, vs = [.ref a] ∧ SqL K H a xs ∧ R (Ite K a) H
instance i_enumL : St1 (iEnum K ta σ H R) (ta σ H fun vs H1 => rEnL K vs H1 R) := ⟨fun h => h⟩
theorem v_enumL (ha : H a = some (.lst xs)) (q : R (Ite K a) H) : rEnL K [.ref a] H R := ⟨a, xs, rfl, SqL.of ha, q⟩
theorem walk_enumL : Walk (Ite K a) xs.length (fun H => SqL K H a xs) (fun i H v H' => ∃ T x, v = .ref T ∧ H T = none ∧ xs[i]? = some x ∧ H' = upd H T (.tup [.int (i : Nat), x])) :=
  ⟨fun i _ hi q => ⟨xs, xs[i], q, by simp [hi]⟩, fun _ q => ⟨xs, q, Nat.le_refl _⟩, fun _ _ _ _ _ q y => let ⟨T, x, h1, h2, h3, h4⟩ := y; ⟨T, x, h1, h2, h4 xs q, h3⟩⟩
/-! is, is not of bools -/
instance j_isNB {b : Bool} {Q : VK} : St1 (uIsN (.bl b) .non H Q) (Q (.bl false) H) := ⟨fun q => ⟨rfl, q⟩⟩
instance j_isBl {b c : Bool} {Q : VK} : St1 (rIsB (.bl b) (.bl c) H Q) (Q (.bl (decide (b = c))) H) := ⟨fun q => ⟨b, c, rfl, rfl, q⟩⟩
instance j_notBl {b c : Bool} {Q : VK} : St1 (rNotB (.bl b) (.bl c) H Q) (Q (.bl (!decide (b = c))) H) := ⟨fun q => ⟨b, c, rfl, rfl, q⟩⟩
theorem v_isBl {b c : Bool} {Q : VK} (q : Q (.bl (decide (b = c))) H) : rIsB (.bl b) (.bl c) H Q := ⟨b, c, rfl, rfl, q⟩
theorem v_notBl {b c : Bool} {Q : VK} (q : Q (.bl (!decide (b = c))) H) : rNotB (.bl b) (.bl c) H Q := ⟨b, c, rfl, rfl, q⟩
end
end GG

/-! HG: a generator's for loops around its yields. -/
namespace L2
open PySem PySem.Spec PyProof.Rows GenW
section
variable {M : Model} {A : Around} {R : GenEnd} {Y : Protocol} {n : Nat} {s₀ : Shared} {c : Code} {fs : List Frame} {s : Shared} {env : Env} {K : Flow → Sem PySem.Fin} {J : Value → Sem PySem.Fin} {gd : Bool → Bool} {lv : List Value → List Value}
theorem seg_For {target iter : Expr} {body : List Stmt} {pos : Pos}
    (h : wpAny M (A.over c fs) (eval iter env) (fun x s1 => wpAny M (A.over c fs) (pyIter x) (fun it s2 => ∀ p, Seg M A R Y n s₀ (.forLoop target it body [] env) (M.den (.forLoop target it body [] env))
        (.ret (fun r => ((match r with | .ok f => (.pure f : Sem Flow) | .error e => .raise e).onRaise (cameBack env)).wrap K J gd lv) none (gd false) (lv []) c p [] :: fs) s2)
      (fun x s' => Seg M A R Y n s₀ c (J x) fs s') s1) (fun x s' => Seg M A R Y n s₀ c (J x) fs s') s)
    (hs : ∀ x, foldedSetIterable iter env x = pure x) :
    Seg M A R Y n s₀ c ((exec (.For target iter body [] pos) env).wrap K J gd lv) fs s := by
  rw [exec_For]
  refine seg_bind_wrap (wpAny_standAt ?_)
  refine seg_bind_wrap (wpAny_mono h (fun x s1 h1 => ?_) fun _ _ x => x)
  refine seg_bind_wrap (wpAny_of_eq (hs x) ?_)
  refine seg_bind_wrap (wpAny_standAt ?_)
  refine seg_bind_wrap (wpAny_holding (wpAny_mono h1 (fun it s2 h2 => ?_) fun _ _ x => x))
  exact seg_call h2
end
section
variable {prog : Program} {w : World} {A : Around} {R : GenEnd} {Y : Protocol} {n : Nat} {s₀ : Shared} {fs : List Frame} {s : Shared} {env : Env}
/-- what the loop's code does with an exception -/
abbrev ForX (prog : Program) (w : World) (A : Around) (R : GenEnd) (Y : Protocol) (n : Nat) (s₀ : Shared) (c : Code) (env : Env) (fs : List Frame) (x : Value) (s' : Shared) : Prop :=
  Seg (model prog w) A R Y n s₀ c ((do noteFrame x env; theTreesLotGoes x : Sem Unit).wrap (fun _ => .raise x) .raise id id) fs s'
theorem seg_forLoop {target : Expr} {it : Value} {body : List Stmt}
    (h : wpAny (model prog w) (A.over (.forLoop target it body [] env) fs) (pyNext it) (fun r s1 => match r with
        | none => Seg (model prog w) A R Y n s₀ (.block [] env) (.pure (.done .next)) fs s1
        | some v => wpAny (model prog w) (A.over (.forLoop target it body [] env) fs) (letOwnedTupleGo target it v) (fun _ s2 => wpAny (model prog w) (A.over (.forLoop target it body [] env) fs) (assign target env v) (fun _ s3 =>
            Seg (model prog w) A R Y n s₀ (.forLoop target it body [] env) ((execs body env).wrap (fun f => match f with
              | .next | .cont => .pure (.again (.forLoop target it body [] env))
              | .brk => .pure (.done .next)
              | .ret v => .pure (.done (.ret v))) (fun e => (do noteFrame e env; theTreesLotGoes e : Sem Unit).wrap (fun _ => .raise e) .raise id id) id id) fs s3)
          (ForX prog w A R Y n s₀ (.forLoop target it body [] env) env fs) s2) (ForX prog w A R Y n s₀ (.forLoop target it body [] env) env fs) s1)
      (ForX prog w A R Y n s₀ (.forLoop target it body [] env) env fs) s) :
    Seg (model prog w) A R Y n s₀ (.forLoop target it body [] env) ((model prog w).den (.forLoop target it body [] env)) fs s := by
  show Seg _ A R Y n s₀ _ ((forTurn target it body [] env).onRaise (fun x => do noteFrame x env; theTreesLotGoes x)) fs s
  have eH : ∀ x : Value, ((do noteFrame x env; theTreesLotGoes x : Sem Unit).bind fun _ => (.raise x : Sem PySem.Fin)) = (do noteFrame x env; theTreesLotGoes x : Sem Unit).wrap (fun _ => .raise x) .raise id id := fun x => by rw [Sem.bind_eq_wrap]
  unfold forTurn
  rw [Sem.onRaise_eq_wrap]
  refine seg_bind_wrap (wpAny_standAt ?_)
  refine seg_bind_wrap (wpAny_onRaise (wpAny_mono h (fun r s1 h1 => ?_) fun x s1 hx => wpAny_standAt ?_))
  rotate_left
  · have hx' : Seg _ A R Y n s₀ _ _ fs s1 := hx
    rw [← eH] at hx'
    exact hx'
  cases r with
  | none =>
    refine seg_again (c' := .block [] env) rfl ?_
    exact h1
  | some v =>
    refine seg_bind_wrap (wpAny_mono h1 (fun _ s2 h2 => ?_) fun x s2 hx => ?_)
    rotate_left
    · have hx' : Seg _ A R Y n s₀ _ _ fs s2 := hx
      rw [← eH] at hx'
      exact hx'
    refine seg_bind_wrap (wpAny_mono h2 (fun _ s3 h3 => ?_) fun x s3 hx => ?_)
    rotate_left
    · have hx' : Seg _ A R Y n s₀ _ _ fs s3 := hx
      rw [← eH] at hx'
      exact hx'
    rw [Sem.bind_eq_wrap', Sem.wrap_wrap]
    rw [Sem.wrap_congr (execs body env) _ _ (K' := fun f => match f with
              | .next | .cont => .pure (.again (.forLoop target it body [] env))
              | .brk => .pure (.done .next)
              | .ret v => .pure (.done (.ret v))) (H' := (fun e => (do noteFrame e env; theTreesLotGoes e : Sem Unit).wrap (fun _ => .raise e) .raise id id))
          (fun f => by cases f <;> rfl)
          (fun e => by first | exact Sem.bind_eq_wrap _ _ | (show (do noteFrame e env; theTreesLotGoes e : Sem Unit).bind (fun _ => .raise e) = _; rw [Sem.bind_eq_wrap]))]
    exact h3
end
section
variable {X : Cx}
def tGFor (wi : TI) (g : TG) (tb : TGn) : TGn := fun D ys σ H => wi σ H fun J H1 => ∃ W : Nat → Nat → List V → St → Hp → Prop, (∃ m, W 0 m ys σ H1) ∧ ∀ i m ys σ H, W i m ys σ H →
  (J.stop i H ∧ D.nx ys σ H) ∨ (J.go i H ∧ ∃ N : List V → St → Hp → Prop, (∀ ys' σ' H', N ys' σ' H' → ∃ m', m' < m ∧ W (i + 1) m' ys' σ' H') ∧ ∀ x H', J.yld i H x H' → g x σ H' fun σ2 H2 => tb { D with nx := N, ct := N, bk := D.nx } ys σ2 H2)
theorem gs_for {tg iter : Expr} {body : List Stmt} {pos : Pos} {wi : TI} {g : TG} {tb : TGn} (hp : PassesOwn (model X.prog X.w) X.A X.env X.xe) (hcm : X.calm = true) (hi : PI X tg iter wi) (hg : PG X tg g) (hb : GSs X body tb) (hs : ∀ x, foldedSetIterable iter X.env x = pure x := by intro _; rfl) :
    GS X (.For tg iter body [] pos) (tGFor wi g tb) := by
  refine ⟨fun A S ip R n ys s₀ c fs K J gd lv s σ H D gc hn k hI ht => ?_⟩
  obtain ⟨acc0, cc0, r0, I0⟩ := hI
  refine seg_For ?_ hs
  rw [gc.over]
  refine wpAny_mono (hi.run _ s σ H _ I0 ht) (fun v s1 h1 => wpAny_mono h1 (fun itv s2 h2 => ?_) fun x s' hx => k.exc n s₀ x s' hx) fun x s' hx => k.exc n s₀ x s' hx
  intro p
  obtain ⟨it, fp, tn, Jt, H2, e, I2, T, st2, f2, W, ⟨m0, w0⟩, turn⟩ := h2
  subst e
  -- apart from the consumer's list
  have hSfp : ∀ b ∈ fp, S ≠ b := fun b hb => (f2 b hb).2.2.2.2.2 (S, lstObj acc0 cc0) (List.mem_append_right _ List.mem_cons_self)
  have stat : ∀ {H' : Hp} {acc : Array Value} {cc : Nat}, (∀ b ∈ fp, H' b = none) → ∀ b ∈ fp, FpOk X ((S, lstObj acc cc) :: ip) H' b := fun {H' acc cc} hn b hb => by
    obtain ⟨_, h2, h3, h4, h5, h6⟩ := f2 b hb
    refine ⟨hn b hb, h2, h3, h4, h5, fun q hq => ?_⟩
    rcases List.mem_append.mp hq with z | z
    · exact h6 q (List.mem_append_left _ z)
    · rcases List.mem_cons.mp z with z | z
      · rw [z]; exact hSfp b hb
      · exact h6 q (List.mem_append_right _ (List.mem_cons_of_mem _ z))
  have gl := fun (kk : Result → Sem PySem.Fin) => gc_loop (k := kk) (c' := .forLoop tg (.ref it) body [] X.env) (l := lv []) (kp := []) (p := p) gc rfl rfl
  have loop : ∀ (m i n : Nat) (ys : List V) (s₀ s : Shared) (σ : St) (H : Hp), n + ys.length = sizeLine → W i m ys σ H → GI X S ip ys σ H s → tn i s.heap → (∀ b ∈ fp, H b = none) →
      Seg (model X.prog X.w) A R (GY X S) n s₀ (.forLoop tg (.ref it) body [] X.env) ((model X.prog X.w).den (.forLoop tg (.ref it) body [] X.env))
        (.ret (fun r => ((match r with | .ok f => (.pure f : Sem Flow) | .error e => .raise e).onRaise (cameBack X.env)).wrap K J gd lv) none (gd false) (lv []) c p [] :: fs) s := by
    intro m
    induction m using Nat.strongRecOn with
    | ind m ih =>
      intro i n ys s₀ s σ H hn w hI hst hfr
      have ee : ∀ (n : Nat) (s₀ : Shared) (x : Value) (s' : Shared), X.xe x s' → Seg (model X.prog X.w) A R (GY X S) n s₀ (.forLoop tg (.ref it) body [] X.env)
          ((do noteFrame x X.env; theTreesLotGoes x : Sem Unit).wrap (fun _ => .raise x) .raise id id)
          (.ret (fun r => ((match r with | .ok f => (.pure f : Sem Flow) | .error e => .raise e).onRaise (cameBack X.env)).wrap K J gd lv) none (gd false) (lv []) c p [] :: fs) s' := fun n s₀ x s' hx => by
        refine seg_wrap ?_
        rw [(gl _).over]
        refine wpAny_bind (wpAny_mono (hp x s' hx) (fun _ s'' hcb => wpAny_theTreesLotGoes ?_) fun y s'' hcb => ?_)
        · exact seg_leaf (.error x) (seg_cameBack gc k hcb)
        · exact seg_leaf (.error y) (seg_cameBack gc k hcb)
      refine seg_forLoop ?_
      rw [(gl _).over]
      obtain ⟨acc, cc, r, I⟩ := hI
      rcases turn i m ys σ H w with ⟨stop, qn⟩ | ⟨go, N, hN, step⟩
      · refine wpAny_mono (T.done X rfl rfl rfl hcm i _ s σ H X.xe I (stat hfr) hst stop) (fun r' s4 h4 => ?_) fun x s' hx => ee n s₀ x s' hx
        obtain ⟨hr, I4⟩ := h4
        subst hr
        exact seg_leaf (.ok .next) (k.ok n ys s₀ s4 .next hn ⟨σ, H, ⟨acc, cc, r, I4⟩, qn⟩)
      · refine wpAny_mono (T.item X rfl rfl rfl hcm i _ s σ H X.xe I (stat hfr) hst go) (fun r' s4 h4 => ?_) fun x s' hx => ee n s₀ x s' hx
        obtain ⟨u, hr, h4⟩ := h4
        subst hr
        refine wpAny_mono h4 (fun _ s5 h5 => ?_) fun x s' hx => ee n s₀ x s' hx
        obtain ⟨x, H5, I5, r5, y5, st5, fr5⟩ := h5
        have I5' := I5.pinned (stat fr5) (T.obj _ _ st5)
        refine wpAny_mono (hg.run _ s5 σ H5 x u _ I5' r5 (step x H5 y5)) (fun _ s6 h6 => ?_) fun x s' hx => ee n s₀ x s' hx
        obtain ⟨σ6, H6, I6, q6⟩ := h6
        have g0 : GC X S ip A (.forLoop tg (.ref it) body [] X.env) (.ret (fun r => ((match r with | .ok f => (.pure f : Sem Flow) | .error e => .raise e).onRaise (cameBack X.env)).wrap K J gd lv) none (gd false) (lv []) c p [] :: fs) id := gl _
        have gi : GC X S (ip ++ pinsAt fp s5.heap) A (.forLoop tg (.ref it) body [] X.env) (.ret (fun r => ((match r with | .ok f => (.pure f : Sem Flow) | .error e => .raise e).onRaise (cameBack X.env)).wrap K J gd lv) none (gd false) (lv []) c p [] :: fs) id :=
          ⟨g0.pn, fun q hq => (List.mem_append.mp hq).elim (g0.ip q) fun z y => hSfp q.1 (of_pinsAt z).1 y.symm, g0.apart, g0.over, g0.split, g0.guard, g0.gd⟩
        have again : ∀ {n' : Nat} {ys' : List V} {s₀' s7 : Shared} {σ7 : St} {H7 : Hp}, n' + ys'.length = sizeLine → GI X S (ip ++ pinsAt fp s5.heap) ys' σ7 H7 s7 → N ys' σ7 H7 →
            Seg (model X.prog X.w) A R (GY X S) n' s₀' (.forLoop tg (.ref it) body [] X.env) (.pure (.again (.forLoop tg (.ref it) body [] X.env)))
              (.ret (fun r => ((match r with | .ok f => (.pure f : Sem Flow) | .error e => .raise e).onRaise (cameBack X.env)).wrap K J gd lv) none (gd false) (lv []) c p [] :: fs) s7 := by
          intro n' ys' s₀' s7 σ7 H7 hn' I7 n7
          obtain ⟨acc7, cc7, r7, J7⟩ := I7
          obtain ⟨m', hm, w7⟩ := hN ys' σ7 H7 n7
          refine seg_again rfl (ih m' hm (i + 1) n' ys' s₀' s7 σ7 H7 hn' w7 ⟨acc7, cc7, r7, Inv.unpinned (pins := (S, lstObj acc7 cc7) :: ip) J7⟩ (T.keep _ _ _ st5 fun b hb o e => (J7.pin (b, o) (List.mem_append_right _ (List.mem_cons_of_mem _ (List.mem_append_right _ (mem_pinsAt hb e))))).1) fun b hb => ?_)
          obtain ⟨o, e, d⟩ := T.obj _ _ st5 b hb
          exact (J7.pin (b, o) (List.mem_append_right _ (List.mem_cons_of_mem _ (List.mem_append_right _ (mem_pinsAt hb e))))).2.1
        have un : ∀ {ys' : List V} {s7 : Shared} {σ7 : St} {H7 : Hp}, GI X S (ip ++ pinsAt fp s5.heap) ys' σ7 H7 s7 → GI X S ip ys' σ7 H7 s7 := fun {ys' s7 σ7 H7} I7 => by
          obtain ⟨acc7, cc7, r7, J7⟩ := I7
          exact ⟨acc7, cc7, r7, Inv.unpinned (pins := (S, lstObj acc7 cc7) :: ip) J7⟩
        refine hb.run A S (ip ++ pinsAt fp s5.heap) R n ys s₀ _ _ _ _ id id s6 σ6 H6 { D with nx := N, ct := N, bk := D.nx } gi hn ⟨fun n' ys' s₀' s7 f hn' hs' => ?_, fun n' s₀' x s7 hx => ee n' s₀' x s7 hx⟩ ⟨acc, cc, r, I6⟩ q6
        cases f with
        | next =>
          obtain ⟨σ7, H7, I7, n7⟩ := hs'
          exact again hn' I7 n7
        | cont =>
          obtain ⟨σ7, H7, I7, n7⟩ := hs'
          exact again hn' I7 n7
        | brk =>
          obtain ⟨σ7, H7, I7, n7⟩ := hs'
          exact seg_leaf (.ok .next) (k.ok n' ys' s₀' s7 .next hn' ⟨σ7, H7, un I7, n7⟩)
        | ret v =>
          obtain ⟨v7, σ7, H7, I7, r7, q7⟩ := hs'
          exact seg_leaf (.ok (.ret v)) (k.ok n' ys' s₀' s7 (.ret v) hn' ⟨v7, σ7, H7, un I7, r7, q7⟩)
  exact loop m0 0 n ys s₀ s2 σ H2 hn w0 ⟨acc0, cc0, r0, I2⟩ st2 fun b hb => (f2 b hb).1
end
end L2

/-! HP: list(f()), f a generator def of the top without arguments; constants of a class that are tuples; enumerate(tuple or list); a list unpacked. -/
namespace GG
open PySem PySem.Spec L2 PyProof.Rows GenW
/-! ### tuples of the written part, constants of a class -/
/-- the tuple at a of the written part -/
def KTup (K : PySem.W.Frag) (a : Addr) (xs : List V) : Prop := ∃ (o : Obj) (its : Array Value) (n : Nat), K.lookup a = some o ∧ o.cls = .type "tuple" ∧ o.data = .seq its n ∧ its.size ≤ sizeLine ∧ Vals xs its.toList
section
variable {K : PySem.W.Frag} {H : Hp} {a : Addr} {xs : List V}
theorem KTup.sq (h : KTup K a xs) : SqT K H a xs := .inr h
theorem KTup.ty (h : KTup K a xs) : TyX K H (.ref a) (.type "tuple") := by
  obtain ⟨o, its, n, h1, h2, _⟩ := h
  exact .kTuple h1 h2
end
/-- C.f is what stands at t -/
structure CCon (K : PySem.W.Frag) (C : Addr) (f : Str) (t : Addr) : Prop where
  rd : PySem.W.readsIn K C (.type "type") = true
  at_ : PySem.W.findCls K (.ref C) (.type "type") f = some (.val (.ref t))
theorem pe_ccon {X : Cx} {x f : Str} {C t : Addr} {p pos : Pos} (hg : Gl X x) (hm : X.mg x = some (.ref C)) (k : CCon X.K C f t) (hd : (x == ("__debug__" : Str)) = false := by decide)
    (hb : attributeBase (.Name x p) f X.env (eval (.Name x p) X.env) = eval (.Name x p) X.env := by rfl) : PE X (.Attribute (.Name x p) f pos) (tC (.ref t)) := by
  refine ⟨fun pins s σ H Q I h => ?_⟩
  refine attr_of hb (thn ((pe_glob (v := .ref C) (pos := p) hg hm rfl hd).run pins s σ H (fun x H1 => x = .ref C ∧ H1 = H) I ⟨rfl, rfl⟩) fun u s1 ⟨x, H1, I1, rx, ex, eh⟩ => ?_)
  subst ex eh
  obtain rfl : u = Value.ref C := rx
  exact PySem.W.cls_value I1.kIn k.rd k.at_ (handed_of (v := .ref t) rfl) ⟨.ref t, _, I1.tok _, rfl, h⟩

/-! ### enumerate(tuple) -/
def IteT (K : PySem.W.Frag) (a : Addr) : It :=
  ⟨fun i H => ∃ (xs : List V) (x : V), SqT K H a xs ∧ xs[i]? = some x, fun i H v H' => ∃ T x, v = .ref T ∧ H T = none ∧ H' = upd H T (.tup [.int (i : Nat), x]) ∧ ∀ xs, SqT K H a xs → xs[i]? = some x, fun i H => ∃ xs : List V, SqT K H a xs ∧ xs.length = i⟩
theorem turn_enumT {P : Program} {w : World} {K : PySem.W.Frag} {elts : List Expr} {kk : Nat} {tpos : Pos} (a e it : Addr) :
    Turn P w K (.Tuple elts kk tpos) (IteT K a) [e, it] e (fun i h => (∃ old, IsEnum h e it ((i : Nat) : Int) old) ∧ h.IsTupleIter it a i ∧ e ≠ it) where
  mem := by simp
  obj := fun i h st b hb => by
    obtain ⟨⟨old, he⟩, ⟨o, ho, hc, hd⟩, _⟩ := st
    have e' : b = e ∨ b = it := by simpa using hb
    rcases e' with z | z
    · rw [z]; exact ⟨_, he, fun v q => nomatch q⟩
    · rw [z]; exact ⟨o, ho, fun v q => by rw [hd] at q; cases q⟩
  keep := fun i h h' st k => let ⟨⟨old, he⟩, hi, hne⟩ := st; ⟨⟨old, k e (by simp) _ he⟩, hi.at fun o q => k it (by simp) o q, hne⟩
  item := by
    intro X hP hw hK hc i pins s σ H E I hf st hg
    subst hP hw hK
    obtain ⟨⟨old, he⟩, hit, hne⟩ := st
    obtain ⟨xs, x, hq, hx⟩ := hg
    obtain ⟨its, rv, p, hz⟩ := I.tuple hq
    obtain ⟨u, hu, ru⟩ := rv.get hx
    have hel : e < s.heap.objs.size := Heap.lt_size he
    have hil : it < s.heap.objs.size := by obtain ⟨_, q, _⟩ := hit; exact Heap.lt_size q
    obtain ⟨f0, _⟩ := hf it (by simp)
    have p' : s.heap.IsTuple a its.toArray := p
    have hai : a ≠ it := fun z => by
      obtain ⟨oi, q1, q2, _⟩ := hit
      obtain ⟨ol, r1, r2, _⟩ := p'
      rw [z] at r1
      rw [q1] at r1
      cases r1
      rw [q2] at r2
      injection r2 with r3
      exact absurd r3 (by decide)
    have D := Draws.tuple (prog := X.prog) (w := X.w) (A := X.A.in1) (I.ok.hd hc) it a hai its.toArray
    have hlt : i < its.toArray.size := by
      have h1 := (List.getElem?_eq_some_iff.mp hu).1
      simpa using h1
    have hea : e ∉ [it, a] := by
      intro z
      rcases (show e = it ∨ e = a by simpa using z) with y | y
      · exact hne y
      · obtain ⟨ol, r1, r2, _⟩ := p'
        rw [← y, he] at r1
        cases r1
        injection r2 with r3
        exact absurd r3 (by decide)
    refine wpAny_pyNext_enum_itemC D he ⟨hit, p'⟩ hlt hne hea fun x0 h' tk hx0 ho hit' hT hsz hk => ?_
    have ex0 : x0 = u := by
      have h1 : its.toArray[i]? = some u := by simpa using hu
      exact Option.some.inj (hx0.symm.trans h1)
    subst ex0
    refine ⟨_, rfl, wpAny_letOwnedTupleGo_enum (s := { s with heap := h', toks := tk + 1 }) ho fun h'' he' sb => ?_⟩
    have hT2 : h''.get? s.heap.objs.size = some { cls := .type "tuple", data := .seq #[.int (i : Nat) tk, x0] } := (sb.2 _ (Nat.ne_of_gt hel)).trans hT
    have new : ObjOk X.prog X.w (upd H s.heap.objs.size (.tup [.int (i : Nat), x])) h'' s.heap.objs.size (.tup [.int (i : Nat), x]) :=
      ⟨by show 2 ≤ sizeLine; decide, [.int (i : Nat) tk, x0], .cons ⟨_, rfl⟩ (.cons ru .nil), ⟨_, hT2, rfl, _, rfl⟩⟩
    have I1 : L2.Inv X pins σ (upd H s.heap.objs.size (.tup [.int (i : Nat), x])) { s with heap := h'', toks := tk + 1 } :=
      I.turnedNew (ch := [e, it]) (fun b ob hb q => (sb.2 b (fun z => hb (by simp [z]))).trans (hk b ob (fun z => hb (by simp [z])) (fun z => hb (by simp [z])) q)) hf (Nat.le_refl _) new
    refine ⟨.ref s.heap.objs.size, _, I1, rfl, ⟨_, x, rfl, I.hok.fresh (Nat.le_refl _), rfl, fun ys hy => by rw [I.tuple_inj hy hq]; exact hx⟩, ⟨⟨x0, ?_⟩, hit'.1.at fun o q => (sb.2 it (Ne.symm hne)).trans q, hne⟩, fun b hb => ?_⟩
    · have e1 : ((i + 1 : Nat) : Int) = (i : Int) + 1 := by omega
      rw [e1]; exact he'
    · have hb' : b < s.heap.objs.size := by
        have e' : b = e ∨ b = it := by simpa using hb
        rcases e' with z | z
        · rw [z]; exact hel
        · rw [z]; exact hil
      rw [upd_ne (Nat.ne_of_lt hb')]
      exact (hf b hb).1
  done := by
    intro X hP hw hK hc i pins s σ H E I hf st hg
    subst hP hw hK
    obtain ⟨⟨old, he⟩, hit, hne⟩ := st
    obtain ⟨xs, hq, hx⟩ := hg
    obtain ⟨its, rv, p, hz⟩ := I.tuple hq
    obtain ⟨f0, f1, f2, f3, f4, f5⟩ := hf it (by simp)
    have p' : s.heap.IsTuple a its.toArray := p
    have hai : a ≠ it := fun z => by
      obtain ⟨oi, q1, q2, _⟩ := hit
      obtain ⟨ol, r1, r2, _⟩ := p'
      rw [z] at r1
      rw [q1] at r1
      cases r1
      rw [q2] at r2
      injection r2 with r3
      exact absurd r3 (by decide)
    have D := Draws.tuple (prog := X.prog) (w := X.w) (A := X.A.in1) (I.ok.hd hc) it a hai its.toArray
    have hl := rv.length
    have hi : i = its.toArray.size := by simp; omega
    subst hi
    exact wpAny_pyNext_enum_endD D he ⟨hit, p'⟩ fun h' eb => ⟨rfl, I.turned (t' := s.toks) (fun b o hb q => eb b o hb q) f0 f1 f3 f4 f5⟩
  self := fun A i s Q E st h => let ⟨⟨_, he⟩, _⟩ := st; wpAny_pyIter_enum he h
def iEnumU (K : PySem.W.Frag) (ta : TA) : TI := fun σ H R => ta σ H fun vs H1 => ∃ a xs, vs = [V.ref a] ∧ ((SqL K H1 a xs ∧ R (Ite K a) H1) ∨ (SqT K H1 a xs ∧ R (IteT K a) H1))
theorem meets_enumerate_new1 {v : Value} {o : Obj} {H : Heap → Prop} (B : Begins v o H) :
    Meets (Builtin.«enumerate.__new__» ⟨[.type "enumerate", v], []⟩) (fun _ R s => H s.heap ∧
      R (.ok (.ret (.ref (s.heap.push o).objs.size))) { s with heap := (s.heap.push o).push { cls := .type "enumerate", data := .fields #[.none, .bool false, .ref s.heap.objs.size, rawInt 0, .none, .none] } }) :=
  .of_wp fun prog w A R s h => by
    obtain ⟨hp, g, d, tk, os⟩ := s; obtain ⟨h1, h⟩ := h
    have hsub := sub_enumerate
    have q1 : ∀ {A' : Around} {E : Value → Shared → Prop} {Q : Value → Shared → Prop}, Q (.ref hp.objs.size) ⟨hp.push o, g, d, tk, os⟩ → wpAny (model prog w) A' (pyIter v) Q E ⟨hp, g, d, tk, os⟩ :=
      fun q => B.iter prog w _ _ ⟨hp, g, d, tk, os⟩ _ h1 q
    wp_walk using q1
    refine wpAny_stack_any fun st => wpAny_pure ?_
    split
    · rename_i c _ _ _ _ _
      cases (c == Value.type "enumerate")
      · wp_walk using q1
        exact ⟨_, rfl, h⟩
      · wp_walk using q1
        exact ⟨_, rfl, h⟩
    · wp_walk using q1
      exact ⟨_, rfl, h⟩
theorem enum_begins1 {prog : Program} {w : World} {A : Around} {E : Value → Shared → Prop} {s : Shared} {v : Value} {o : Obj} {H : Heap → Prop} {Q : Value → Shared → Prop} (B : Begins v o H) (h1 : H s.heap)
    (h : ∀ h', IsEnum h' (s.heap.objs.size + 1) s.heap.objs.size 0 .none → h'.get? s.heap.objs.size = some o → h'.objs.size = s.heap.objs.size + 2 →
      (∀ b o, s.heap.get? b = some o → h'.get? b = some o) → Q (.ref (s.heap.objs.size + 1)) { s with heap := h' }) :
    wpAny (model prog w) A (call (.type "enumerate") [v]) Q E s := by
  refine callType_new F.called_enumerate (by decide) (F.typeCall_enumerate_1 _) (F.newCall_enumerate_1 _) (fun obj => F.args_object_init_2 obj _) F.entry_enumerate_new
    (meets_enumerate_new1 B) ⟨h1, ?_⟩
  have hz : (s.heap.push o).objs.size = s.heap.objs.size + 1 := Heap.size_push ..
  show _ ∧ _
  rw [hz]
  have he : IsEnum ((s.heap.push o).push { cls := .type "enumerate", data := .fields #[.none, .bool false, .ref s.heap.objs.size, rawInt 0, .none, .none] }) (s.heap.objs.size + 1) s.heap.objs.size 0 .none := by
    have := Heap.get?_push_size (s.heap.push o) (o := { cls := .type "enumerate", data := .fields #[.none, .bool false, .ref s.heap.objs.size, rawInt 0, .none, .none] }) rfl
    rw [hz] at this; exact this
  refine ⟨⟨_, he, rfl⟩, h _ he (Heap.get?_push_of_some _ (Heap.get?_push_size _ B.free)) (by rw [Heap.size_push, hz]) fun b o x => Heap.get?_push_of_some _ (Heap.get?_push_of_some _ x)⟩
theorem pi_enumU {X : Cx} (K : PySem.W.Frag) {e : Expr} {ta : TA} {p pos tpos : Pos} {elts : List Expr} {kk : Nat} (hg : Gl X "enumerate") (hm : X.mg "enumerate" = none) (ha : PA X [e] ta) (hK : X.K = K := by rfl) (hs : starEach [e] X.env = [(false, eval e X.env)] := by rfl) :
    PI X (.Tuple elts kk tpos) (.Call (.Name "enumerate" p) [e] [] pos) (iEnumU K ta) := by
  subst hK
  refine ⟨fun pins s σ H R I h => ?_⟩
  refine Call_ (ld_blt I hg hm boot_enumerate (PyProof.Rows.callWith_type1 (thn (ha.run pos pins s σ H _ I h) fun us s1 ⟨vs, H1, I1, r1, q1⟩ => ?_) hs rfl))
  obtain ⟨a, xs, ex, q⟩ := q1
  subst ex
  obtain ⟨u, rfl, ru⟩ := vals1 r1
  cases ru
  have fp : ∀ b ∈ [s1.heap.objs.size + 1, s1.heap.objs.size], FpOk X pins H1 b := fun b hb => by
    have hle : s1.heap.objs.size ≤ b := by
      rcases (show b = s1.heap.objs.size + 1 ∨ b = s1.heap.objs.size by simpa using hb) with y | y
      · rw [y]; exact Nat.le_add_right _ _
      · rw [y]; exact Nat.le_refl _
    exact I1.fpOk hle (I1.hok.fresh hle)
  rcases q with ⟨hq, q⟩ | ⟨hq, q⟩
  · obtain ⟨its, rv, p', hz⟩ := I1.list hq
    refine enum_begins1 (begins_list a its.toArray) p'.isList fun h' he hit hsz hk => wpAny_pyIter_enum he ?_
    exact ⟨s1.heap.objs.size + 1, [s1.heap.objs.size + 1, s1.heap.objs.size], _, _, H1, rfl, I1.kept (t' := s1.toks) hk, turn_enum a (s1.heap.objs.size + 1) s1.heap.objs.size, ⟨⟨.none, he⟩, ⟨_, hit, rfl, rfl⟩, Nat.succ_ne_self _⟩, fp, q⟩
  · obtain ⟨its, rv, p', hz⟩ := I1.tuple hq
    refine enum_begins1 (begins_tuple a its.toArray) (show s1.heap.IsTuple a its.toArray from p') fun h' he hit hsz hk => wpAny_pyIter_enum he ?_
    exact ⟨s1.heap.objs.size + 1, [s1.heap.objs.size + 1, s1.heap.objs.size], _, _, H1, rfl, I1.kept (t' := s1.toks) hk, turn_enumT a (s1.heap.objs.size + 1) s1.heap.objs.size, ⟨⟨.none, he⟩, ⟨_, hit, rfl, rfl⟩, Nat.succ_ne_self _⟩, fp, q⟩
section
variable {K : PySem.W.Frag} {H : Hp} {a : Addr} {xs : List V} {σ : L2.St} {ta : TA} {R : It → Hp → Prop} {nx bk ct : L2.St → Hp → Prop} {rt : VK} {t : TS} {g : TG} {Q : VK} {ms ns : List Str} {x : Str} {b : Addr}
def rEnumU (K : PySem.W.Frag) (vs : List V) (H1 : Hp) (R : It → Hp → Prop) : Prop := ∃ a xs, vs = [V.ref a] ∧ ((SqL K H1 a xs ∧ R (Ite K a) H1) ∨ (SqT K H1 a xs ∧ R (IteT K a) H1))
instance i_enumU : St1 (iEnumU K ta σ H R) (ta σ H fun vs H1 => rEnumU K vs H1 R) := ⟨fun h => h⟩
theorem v_enumUL (ha : H a = some (.lst xs)) (q : R (Ite K a) H) : rEnumU K [.ref a] H R := ⟨a, xs, rfl, .inl ⟨SqL.of ha, q⟩⟩
theorem v_enumUT (ha : H a = some (.tup xs)) (q : R (IteT K a) H) : rEnumU K [.ref a] H R := ⟨a, xs, rfl, .inr ⟨SqT.of ha, q⟩⟩
theorem walk_enumT : Walk (IteT K a) xs.length (fun H => SqT K H a xs) (fun i H v H' => ∃ T x, v = .ref T ∧ H T = none ∧ xs[i]? = some x ∧ H' = upd H T (.tup [.int (i : Nat), x])) :=
  ⟨fun i _ hi q => ⟨xs, xs[i], q, by simp [hi]⟩, fun _ q => ⟨xs, q, rfl⟩, fun _ _ _ _ _ q y => let ⟨T, x, h1, h2, h3, h4⟩ := y; ⟨T, x, h1, h2, h4 xs q, h3⟩⟩
/-! readings of tuples of the written part -/
theorem v_notinSq (ha : SqT K H a (ms.map V.str)) (q : Q (.bl (!decide (x ∈ ms))) H) : uNotinX K (.str x) (.ref a) H Q := .inl ⟨a, _, rfl, .inr ha, rfl, flat_strs, by rw [if_pos rfl, inV_strs]; exact q⟩
theorem v_neSq (hm : ∀ m ∈ ms, PyData.strOk m = true) (hn : ∀ m ∈ ns, PyData.strOk m = true) (ha : SqT K H a (ms.map V.str)) (hb : SqT K H b (ns.map V.str)) (q : Q (.bl (!decide (ms = ns))) H) : uNe K (.ref a) (.ref b) H Q :=
  .inr ⟨_, _, .tup ha dp_strs, .tup hb dp_strs, shaped_strsT hm, shaped_strsT hn, by unfold PyData.eqv; rw [eqv_strs]; exact q⟩
theorem v_isTupSq (h : TyX K H (.ref a) (.type "tuple")) (q : Q (.bl true) H) : rIsi K [.ref a, .ty "tuple"] H Q := ⟨_, _, _, _, true, rfl, .ty "tuple", h, kit_ty (by decide +kernel), q⟩
theorem r_seqTSq {R : It → Hp → Prop} (ha : SqT K H a xs) (q : R (Itt K a) H) : rSeqT K (.ref a) H R := ⟨a, rfl, ⟨xs, ha⟩, q⟩
/-! a list unpacked -/
theorem pg_unlK (K : PySem.W.Frag) {X : Cx} {es : List Expr} {k : Nat} {t : TGs} {n : Nat} {pos : Pos} (hc : X.calm = true) (h : PGs X es t) (hK : X.K = K := by rfl)
    (hn : (assignEach es X.env).length = n := by rfl) (hst : (assignEach es X.env).findIdx? (·.1) = none := by rfl) : PG X (.Tuple es k pos) (gUnl K n t) := by subst hK; exact pg_unl hc h hn hst
instance i_asgU {n : Nat} {tg : TGs} {te : TE} : St1 (Run (tAsg te (gUnl K n tg)) nx rt bk ct σ H) (te σ H fun x H1 => gUnl K n tg x σ H1 nx) := ⟨fun h => h⟩
theorem g_unl {n : Nat} {tg : TGs} {k : L2.St → Hp → Prop} (ha : H a = some (.lst xs)) (hl : xs.length = n) (h : tg xs σ H k) : gUnl K n tg (.ref a) σ H k := ⟨a, xs, rfl, SqL.of ha, hl, h⟩
end
/-! ### list(f()), f a generator def of the top -/
structure Gn (P : Program) (w : World) (K : PySem.W.Frag) (mg : Str → Option Value) (base : Heap) (x : Str) (k : Nat) (sp : SpG) : Prop where
  ex : ∃ f fd, GFn P w K mg base k f fd [] sp ∧ mg x = some (.ref f) ∧ PySem.W.keepIn K (.ref f) = true ∧ L2.Binds K fd [] []
theorem Fun.okG {P : Program} {w : World} {K : PySem.W.Frag} {mg : Str → Option Value} {base : Heap} {x qual : Str} {st : Stmt} {f : Addr} {fd : FuncData} {N ps : List Str} {k : Nat} {sp : SpG} (F : Fun K x qual st f fd) (S : GScope N ps (defScope st)) (len : ∀ vs H Q E, sp vs H Q E → vs.length = ps.length)
    (hbody : ∀ (cdv : Value) (A : Around) (outer : List Env) (s : Shared) (H : Hp) (vs : List V) (Q : List V → Hp → Prop) (E : XK) (pn : List (Addr × Obj)), Room k (A.deeper (envOfC qual (defScope st) s.heap.objs.size f cdv)) → sp vs H Q E →
      ∃ t, GSs (gcxOf P w K mg base N qual (defScope st) f cdv A outer s H E pn) (defBody st) t ∧ t { nx := fun ys _ H' => Q ys H', rt := fun ys v H' => v = .non ∧ Q ys H' } [] (start N vs) H) :
    GFn P w K mg base (k + 1) f fd ps sp := by
  obtain ⟨oc, od, kV, doc, pm, an, cdv, ct, osl, rfl, lk, hcd⟩ := F.ex
  exact gfn_of lk hcd S len fun A outer s H vs Q E pn hr hsp => hbody cdv A outer s H vs Q E pn hr hsp
/-- list(f()) -/
def tLsG (sp : SpG) : TE := fun σ H Q => sp [] H (fun out H2 => ∀ p, H2 p = none → Q (.ref p) (upd H2 p (.lst out))) fun _ _ _ => False
theorem pe_lsG {X : Cx} {k : Nat} {sp : SpG} {x : Str} {p p2 pos pos2 : Pos} (G : Gn X.prog X.w X.K X.mg X.base x k sp) (hr : Room (k + 3) X.A) (hb : X.mg "list" = none) (hg : Gl X x := by rfl) (hgl : Gl X "list" := by rfl) (hdb : (x == ("__debug__" : Str)) = false := by decide)
    (hs : starEach [.Call (.Name x p2) [] [] pos2] X.env = (false, eval (.Call (.Name x p2) [] [] pos2) X.env) :: starEach [] X.env := by rfl) :
    PE X (.Call (.Name "list" p) [.Call (.Name x p2) [] [] pos2] [] pos) (tLsG sp) := by
  obtain ⟨f, fd, F, hm, hk, hB⟩ := G.ex
  have hr0 : Room k X.A := hr.mono (by omega)
  have hp : PGen X k (.Call (.Name x p2) [] [] pos2) (fun σ H cont => sp [] H cont fun _ _ _ => False) (fun _ _ _ => False) := by
    refine ⟨fun pins s σ H cont I h => ?_⟩
    refine wpAny_Call_Name_kw (ld_glob I hg hm ?_ hdb)
    exact PySem.W.callWith_K0 I.kIn hk (run_gfn (us := []) (vs := []) F hr0 hB .nil I .nil h)
  exact pe_listG hp (fun pins σ H s e s' I h => by
    obtain ⟨a, B, H', cls, d, z1, fl, z2, ub, z3, z4, z5, z6⟩ := h
    exact z6.elim) (fun cls d H h => h.elim) hr hgl hb rfl (by decide) (by decide) hs
section
variable {K : PySem.W.Frag} {σ : L2.St} {H : Hp} {a : Addr} {xs ys : List V} {g : TG} {tb t u : TGn} {D : GEnds} {sp : SpG} {Q : VK} {te : TE} {ts : TS} {wi : TI}
/-- list(f()): out is what it hands out -/
theorem v_lsG (h : ∀ Q', (∀ out H2, (∀ p, H2 p = none → Q (.ref p) (upd H2 p (.lst out))) → Q' out H2) → sp [] H Q' fun _ _ _ => False) : tLsG sp σ H Q := h _ fun _ _ h => h
/-- a generator's loop over a tuple -/
theorem gf_tup (Pv : Nat → List V → L2.St → Hp → Prop) (h0 : Pv 0 ys σ H) (hl : ∀ H, SqT K H a xs) (hs : ∀ i x ys σ H, xs[i]? = some x → Pv i ys σ H → g x σ H fun σ2 H2 => tb { D with nx := Pv (i + 1), ct := Pv (i + 1), bk := D.nx } ys σ2 H2)
    (hd : ∀ ys σ H, Pv xs.length ys σ H → D.nx ys σ H) : tGFor (iTup K (tC (.ref a))) g tb D ys σ H := by
  refine ⟨a, rfl, ⟨xs, hl H⟩, fun i m ys σ H => m + i = xs.length ∧ Pv i ys σ H, ⟨xs.length, rfl, h0⟩, fun i m ys σ H ⟨e, q⟩ => ?_⟩
  by_cases hi : i < xs.length
  · refine .inr ⟨⟨xs, xs[i], hl H, List.getElem?_eq_getElem hi⟩, Pv (i + 1), fun ys' σ' H' q' => ⟨m - 1, by omega, by omega, q'⟩, fun x H' hy => ?_⟩
    obtain ⟨rfl, hx⟩ := hy
    exact hs i x ys σ H' (hx xs (hl H')) q
  · have e2 : i = xs.length := by omega
    subst e2
    exact .inl ⟨⟨xs, hl H, Nat.le_refl _⟩, hd ys σ H q⟩
end
end GG

/-! HQ: if a == k: .., the branch wanting a token out; text.upper(). -/
namespace GG
open PySem PySem.Spec L2 PyProof.Rows
section
variable {X : Cx} {a b : Expr} {ta tb : TE} {t u : TS} {s1 s2 : List Stmt} {p pos : Pos} {op : CmpOp} {r : R2}
theorem ps_if1 (ho : OpR X (compareOp op) r) (ha : PE X a ta) (hb : PE1 X b tb) (hm : behindInMarks op b = false) (h1 : PSsT X s1 t) (h2 : PSs X s2 u) : PS X (.If (.Compare a [op] [b] p) s1 s2 pos) (tIfS (tTest (tOp r ta tb)) t u) := by
  refine ⟨fun pins s σ H D I h => ?_⟩
  refine wpAny_If ?_
  refine wpAny_isTrue_Compare1 (thn (ha.run pins s σ H _ I h) fun v s1 ⟨x, H1, I1, r1, q1⟩ => wpAny_mono (hb pins s1 σ H1 _ I1 q1) (fun w s2 q => ?_) fun _ _ z => z) hm
  obtain ⟨hk, y, H2, I2, r2, q2⟩ := q
  refine PySem.wpAny_with_toks hk (wpAny_mono (ho pins s2 σ H2 x y v w _ I2 r1 r2 q2) (fun c s3 z hk3 => ?_) fun _ _ z _ => z)
  obtain ⟨z, H3, I3, r3, k, e, q3⟩ := z
  subst e
  cases r3
  refine wpAny_truthy_bool ?_
  cases k with
  | true => exact h1 pins s3 σ H3 D hk3 I3 q3
  | false => exact h2.run pins s3 σ H3 D I3 q3
def rUpper : V → List V → Hp → VK → Prop := fun x xs H Q => ∃ a, x = .str a ∧ xs = [] ∧ a.length ≤ 5592405 ∧ Q (.str (Txt.upper a)) H
theorem m_upper : MtR X "str.upper" rUpper := mt_upper
theorem v_upper {x : Str} {H : Hp} {Q : VK} (h : x.length ≤ 1000) (q : Q (.str (Txt.upper x)) H) : rUpper (.str x) [] H Q := ⟨x, rfl, rfl, by omega, q⟩
end
end GG

namespace K34
open PySem L2 GG PyProof.Rows
def top (i : Nat) : Stmt := PySem.Challenge.pw_gangbooks_k34_policy_words.main.body.getD i (.Pass ⟨0, 0, 0, 0⟩)
abbrev s_wrong_word : Stmt := (top 7)
abbrev s_Policy___init__ : Stmt := (inClass (top 6) 4)
abbrev s_Policy_read : Stmt := (inClass (top 6) 5)
abbrev s_Policy_text : Stmt := (inClass (top 6) 6)
abbrev s_Policy___xor__ : Stmt := (inClass (top 6) 7)
abbrev s_Policy___eq__ : Stmt := (inClass (top 6) 8)
abbrev s_Policy___iter__ : Stmt := (inClass (top 6) 9)
abbrev s_all_policies : Stmt := (top 8)
abbrev s__law_mixed : Stmt := (top 10)
abbrev s__law_pool : Stmt := (top 11)
abbrev s__law_sign : Stmt := (top 12)
abbrev s__law_menus : Stmt := (top 13)
abbrev s__law_all_words : Stmt := (top 14)
abbrev s__law_word : Stmt := (top 15)
abbrev s__law_four : Stmt := (top 16)
abbrev s__law_text : Stmt := (top 17)
abbrev s__law_is_policy : Stmt := (top 18)
abbrev s__law_is_indexes : Stmt := (top 19)
abbrev s__law_class_values : Stmt := (top 20)
abbrev s__law_made : Stmt := (top 21)
abbrev s__law_read : Stmt := (top 22)
abbrev s__law_differences : Stmt := (top 23)
abbrev s_law : Stmt := (top 24)
theorem sc_wrong_word : FnScope ["words", "menus", "at", "word"] ["words"] (defScope s_wrong_word) := ⟨rfl, rfl, rfl, by decide +kernel, rfl, by decide +kernel, by decide +kernel⟩
theorem sc_Policy___init__ : FnScope ["self", "order", "place", "evict", "fill", "words", "wrong"] ["self", "order", "place", "evict", "fill"] (defScope s_Policy___init__) := ⟨rfl, rfl, rfl, by decide +kernel, rfl, by decide +kernel, by decide +kernel⟩
theorem sc_Policy_read : FnScope ["cls", "text", "words", "order", "place", "evict", "fill"] ["cls", "text"] (defScope s_Policy_read) := ⟨rfl, rfl, rfl, by decide +kernel, rfl, by decide +kernel, by decide +kernel⟩
theorem sc_Policy_text : FnScope ["self"] ["self"] (defScope s_Policy_text) := ⟨rfl, rfl, rfl, by decide +kernel, rfl, by decide +kernel, by decide +kernel⟩
theorem sc_Policy___xor__ : FnScope ["self", "other", "at"] ["self", "other"] (defScope s_Policy___xor__) := ⟨rfl, rfl, rfl, by decide +kernel, rfl, by decide +kernel, by decide +kernel⟩
theorem sc_Policy___eq__ : FnScope ["self", "other"] ["self", "other"] (defScope s_Policy___eq__) := ⟨rfl, rfl, rfl, by decide +kernel, rfl, by decide +kernel, by decide +kernel⟩
theorem sc_Policy___iter__ : FnScope ["self"] ["self"] (defScope s_Policy___iter__) := ⟨rfl, rfl, rfl, by decide +kernel, rfl, by decide +kernel, by decide +kernel⟩
theorem sc_all_policies : GScope ["order", "place", "evict", "fill"] [] (defScope s_all_policies) := ⟨rfl, rfl, rfl, by decide +kernel, rfl, by decide +kernel, by decide +kernel⟩
theorem sc__law_mixed : FnScope ["_law_seed", "_law_k", "_law_first", "_law_second", "_law_third"] ["_law_seed", "_law_k"] (defScope s__law_mixed) := ⟨rfl, rfl, rfl, by decide +kernel, rfl, by decide +kernel, by decide +kernel⟩
theorem sc__law_pool : FnScope ["_law_script", "_law_table", "_law_nums", "_law_seed", "_law_k", "_law_cell", "_law_j", "_law_number"] ["_law_script", "_law_table"] (defScope s__law_pool) := ⟨rfl, rfl, rfl, by decide +kernel, rfl, by decide +kernel, by decide +kernel⟩
theorem sc__law_sign : FnScope ["_law_number", "_law_signs"] ["_law_number"] (defScope s__law_sign) := ⟨rfl, rfl, rfl, by decide +kernel, rfl, by decide +kernel, by decide +kernel⟩
theorem sc__law_menus : FnScope ["_law_orders", "_law_places", "_law_evicts", "_law_fills"] [] (defScope s__law_menus) := ⟨rfl, rfl, rfl, by decide +kernel, rfl, by decide +kernel, by decide +kernel⟩
theorem sc__law_all_words : FnScope ["_law_menu", "_law_rows", "_law_order", "_law_place", "_law_evict", "_law_fill"] ["_law_menu"] (defScope s__law_all_words) := ⟨rfl, rfl, rfl, by decide +kernel, rfl, by decide +kernel, by decide +kernel⟩
theorem sc__law_word : FnScope ["_law_menu", "_law_place", "_law_number", "_law_second", "_law_row", "_law_kind", "_law_word_here", "_law_at", "_law_signs", "_law_k"] ["_law_menu", "_law_place", "_law_number", "_law_second"] (defScope s__law_word) := ⟨rfl, rfl, rfl, by decide +kernel, rfl, by decide +kernel, by decide +kernel⟩
theorem sc__law_four : FnScope ["_law_menu", "_law_nums", "_law_words", "_law_k", "_law_word_here"] ["_law_menu", "_law_nums"] (defScope s__law_four) := ⟨rfl, rfl, rfl, by decide +kernel, rfl, by decide +kernel, by decide +kernel⟩
theorem sc__law_text : FnScope ["_law_base", "_law_words", "_law_nums", "_law_kind", "_law_at", "_law_sign_here", "_law_parts", "_law_one", "_law_two"] ["_law_base", "_law_words", "_law_nums"] (defScope s__law_text) := ⟨rfl, rfl, rfl, by decide +kernel, rfl, by decide +kernel, by decide +kernel⟩
theorem sc__law_is_policy : FnScope ["_law_policy", "_law_words"] ["_law_policy", "_law_words"] (defScope s__law_is_policy) := ⟨rfl, rfl, rfl, by decide +kernel, rfl, by decide +kernel, by decide +kernel⟩
theorem sc__law_is_indexes : FnScope ["_law_answer", "_law_due", "_law_k"] ["_law_answer", "_law_due"] (defScope s__law_is_indexes) := ⟨rfl, rfl, rfl, by decide +kernel, rfl, by decide +kernel, by decide +kernel⟩
theorem sc__law_class_values : FnScope ["_law_menu", "_law_values", "_law_k"] ["_law_menu"] (defScope s__law_class_values) := ⟨rfl, rfl, rfl, by decide +kernel, rfl, by decide +kernel, by decide +kernel⟩
theorem sc__law_made : FnScope ["_law_menu", "_law_words", "_law_wrong", "e", "_law_again", "_law_policy", "_law_k"] ["_law_menu", "_law_words"] (defScope s__law_made) := ⟨rfl, rfl, rfl, by decide +kernel, rfl, by decide +kernel, by decide +kernel⟩
theorem sc__law_read : FnScope ["_law_rows", "_law_text_here", "_law_due", "e", "_law_policy", "_law_row"] ["_law_rows", "_law_text_here"] (defScope s__law_read) := ⟨rfl, rfl, rfl, by decide +kernel, rfl, by decide +kernel, by decide +kernel⟩
theorem sc__law_differences : FnScope ["_law_rows", "_law_at", "_law_made_here", "_law_one", "_law_k", "_law_due", "_law_answer", "_law_j"] ["_law_rows", "_law_at"] (defScope s__law_differences) := ⟨rfl, rfl, rfl, by decide +kernel, rfl, by decide +kernel, by decide +kernel⟩
theorem sc_law : FnScope ["_law_script", "_law_table", "_law_nums", "_law_menu", "_law_rows", "_law_words", "_law_text_here", "_law_right"] ["_law_script"] (defScope s_law) := ⟨rfl, rfl, rfl, by decide +kernel, rfl, by decide +kernel, by decide +kernel⟩
structure Ad where
  K : PySem.W.Frag
  GangError : Addr
  BadName : Addr
  BadPolicy : Addr
  BadEvent : Addr
  Policy : Addr
  fE : Addr
  t_ORDERS : Addr
  t_PLACES : Addr
  t_EVICTS : Addr
  t_FILLS : Addr
structure Txt (K : PySem.W.Frag) (mg : Str → Option Value) (c : Ad) : Prop where
  kk : c.K = K
  b_ValueError : mg "ValueError" = none
  b_len : mg "len" = none
  b_int : mg "int" = none
  b_abs : mg "abs" = none
  b_isinstance : mg "isinstance" = none
  b_bool : mg "bool" = none
  b_range : mg "range" = none
  b_str : mg "str" = none
  b_list : mg "list" = none
  b_tuple : mg "tuple" = none
  b_enumerate : mg "enumerate" = none
  b_iter : mg "iter" = none
  g_GangError : mg "GangError" = some (.ref c.GangError)
  g_BadName : mg "BadName" = some (.ref c.BadName)
  g_BadPolicy : mg "BadPolicy" = some (.ref c.BadPolicy)
  g_BadEvent : mg "BadEvent" = some (.ref c.BadEvent)
  g_Policy : mg "Policy" = some (.ref c.Policy)
  o_Policy : OwnC K mg "Policy" c.Policy
  sf_Policy : PySem.W.selfFirst K c.Policy = true
  na_Policy_order : NoAttr K c.Policy "order"
  na_Policy_place : NoAttr K c.Policy "place"
  na_Policy_evict : NoAttr K c.Policy "evict"
  na_Policy_fill : NoAttr K c.Policy "fill"
  na_Policy_all_words : NoAttr K c.Policy "all_words"
  e_BadPolicy : PySem.GErr.ErrTxt K mg "BadPolicy" c.BadPolicy c.fE
  x_BadPolicy_GangError : PySem.W.exmOne K (.ref c.BadPolicy) (.ref c.GangError) = some true
  k_BadPolicy_BadPolicy : PySem.W.kitOne K (.ref c.BadPolicy) (.ref c.BadPolicy) = some true
  k_BadPolicy_ValueError : PySem.W.kitOne K (.ref c.BadPolicy) (.type "ValueError") = some true
  k_BadPolicy_BadName : PySem.W.kitOne K (.ref c.BadPolicy) (.ref c.BadName) = some false
  k_BadPolicy_BadEvent : PySem.W.kitOne K (.ref c.BadPolicy) (.ref c.BadEvent) = some false
  cc_Policy_ORDERS : CCon K c.Policy "ORDERS" c.t_ORDERS
  kt_ORDERS : KTup K c.t_ORDERS [.str (S [115, 104, 97, 114, 101]), .str (S [114, 97, 110, 107]), .str (S [97, 103, 101]), .str (S [115, 104, 111, 114, 116])]
  cc_Policy_PLACES : CCon K c.Policy "PLACES" c.t_PLACES
  kt_PLACES : KTup K c.t_PLACES [.str (S [102, 105, 114, 115, 116]), .str (S [116, 105, 103, 104, 116]), .str (S [108, 111, 111, 115, 101])]
  cc_Policy_EVICTS : CCon K c.Policy "EVICTS" c.t_EVICTS
  kt_EVICTS : KTup K c.t_EVICTS [.str (S [110, 101, 118, 101, 114]), .str (S [111, 119, 101, 100]), .str (S [97, 110, 121])]
  cc_Policy_FILLS : CCon K c.Policy "FILLS" c.t_FILLS
  kt_FILLS : KTup K c.t_FILLS [.str (S [102, 114, 101, 101]), .str (S [115, 116, 114, 105, 99, 116]), .str (S [104, 111, 108, 100])]
  nl_Policy : PySem.W.findIn K (.ref c.Policy) "__len__" = some none
  nh_Policy : PySem.W.findIn K (.ref c.Policy) "__length_hint__" = some none
def spLaw (K : PySem.W.Frag) : Sp := fun vs H Q _ => vs.length = 1 ∧ ∃ (a : Addr) (ns : List Int), vs = [.ref a] ∧ SqL K H a (ns.map V.int) ∧ ns.length ≤ 63 ∧ (∀ n ∈ ns, Builtin.Int.intBits n ≤ 1048576) ∧ ∀ H', Q (.bl true) H'
/-- the pool of a law: three small numbers, a count, great numbers -/
def Pool (H : Hp) (p : Addr) : Prop := ∃ a b c n : Int, ∃ hs : List Int, H p = some (.lst (.int a :: .int b :: .int c :: .int n :: hs.map V.int)) ∧ (0 ≤ a ∧ a < 101) ∧ (0 ≤ b ∧ b < 103) ∧ (0 ≤ c ∧ c < 1009) ∧ hs.length ≤ 63
theorem putF_ne {f g : Str} {v x : V} {r : List (Str × V)} (h : ¬ g = f) : putF f v ((g, x) :: r) = (g, x) :: putF f v r := by
  show (if g = f then _ else _) = _
  rw [if_neg h]
theorem ints_at {ns : List Int} {i : Nat} {x : V} (hx : (ns.map V.int)[i]? = some x) : ∃ z, x = V.int z := by
  rw [List.getElem?_map] at hx
  cases q : ns[i]? with
  | none => rw [q] at hx; cases hx
  | some z => rw [q] at hx; exact ⟨z, (Option.some.inj hx).symm⟩
theorem map_at {α : Type} {f : α → V} {l : List α} {i : Nat} {x : V} (h : (l.map f)[i]? = some x) : ∃ r, l[i]? = some r ∧ x = f r := by
  rw [List.getElem?_map] at h
  cases q : l[i]? with
  | none => rw [q] at h; cases h
  | some r => rw [q] at h; exact ⟨r, rfl, (Option.some.inj h).symm⟩
theorem Pool.ext {H H' : Hp} {p : Addr} (h : Pool H p) (e : Ext H H') : Pool H' p := by
  obtain ⟨a, b, c, n, hs, h1, r⟩ := h
  exact ⟨a, b, c, n, hs, e.look h1, r⟩
theorem Pool.lst {H : Hp} {p : Addr} (h : Pool H p) : ∃ xs, H p = some (.lst xs) := by
  obtain ⟨a, b, c, n, hs, h1, r⟩ := h
  exact ⟨_, h1⟩
theorem Pool.ne {H : Hp} {p q : Addr} (h : Pool H p) (nq : H q = none) : q ≠ p := by
  obtain ⟨xs, h1⟩ := h.lst
  exact Ne.symm (ne_of_none h1 nq)
theorem Pool.but {H H' : Hp} {p q : Addr} (h : Pool H p) (e : But q H H') (n : q ≠ p) : Pool H' p := by
  obtain ⟨a, b, c, n', hs, h1, r⟩ := h
  exact ⟨a, b, c, n', hs, e.look (Ne.symm n) h1, r⟩

theorem lcPool {J : It} {n : Nat} {G : Hp → Prop} {Y : Nat → Hp → V → Hp → Prop} {σ σw : L2.St} {H : Hp} {g : TG} {te : TE} {vs : List Nat} {Q : VK} (w : Walk J n G Y) [a : WipeS σ vs σw] (hn : n ≤ 1000000) {p : Addr} (hp : Pool H p) (R : Nat → V → Prop) (hG : ∀ H1, But p H H1 → G H1) (hY : ∀ i H1 x H1', Y i H1 x H1' → H1' = H1)
    (hs : ∀ i x H1 (k : VK), i < n → But p H H1 → Pool H1 p → Y i H1 x H1 → (∀ y H2, But p H1 H2 → Pool H2 p → R i y → k y H2) → g x σw H1 fun σ2 H2 => LcK vs σw te k σ2 H2)
    (hd : ∀ D ys H1, H D = none → But p H H1 → Pool H1 p → H1 D = some (.lst ys) → ys.length = n → (∀ i y, ys[i]? = some y → R i y) → Q (.ref D) H1) : rLc J g tYes te vs σ H Q := by
  obtain ⟨ps, hl⟩ := hp.lst
  exact lcB w hn hl (fun H1 => Pool H1 p) R hp (fun H1 H2 D b hS hD nD bD => hS.but bD nD) (fun H1 b _ => hG H1 b) (fun i H1 x H1' hy => by rw [hY i H1 x H1' hy]; exact Ext.rfl)
    (fun i x H1 H1' k hi b hS hy hk => by have e := hY i H1 x H1' hy; subst e; exact hs i x _ k hi b hS hy hk) hd
theorem ints_of {P : Int → Prop} : ∀ {ys : List V}, (∀ (i : Nat) (y : V), ys[i]? = some y → ∃ z, y = .int z ∧ P z) → ∃ ns : List Int, ys = ns.map V.int ∧ ∀ z ∈ ns, P z
  | [], _ => ⟨[], rfl, fun z hz => nomatch hz⟩
  | y :: ys, h => by
    obtain ⟨z, rfl, hz⟩ := h 0 y rfl
    obtain ⟨ns, rfl, hns⟩ := ints_of (ys := ys) fun i y hy => h (i + 1) y hy
    exact ⟨z :: ns, rfl, fun w hw => by rcases List.mem_cons.mp hw with rfl | hw; exact hz; exact hns w hw⟩

open GN PySem.NumText
/-- a text of the law: few signs, all of them ASCII -/
def Tx (n : Nat) (l : List Nat) : Prop := (∀ d ∈ l, d < 128) ∧ l.length ≤ n
theorem Tx.mono {n m : Nat} {l : List Nat} (h : Tx n l) (e : n ≤ m) : Tx m l := ⟨h.1, by have := h.2; omega⟩
theorem Tx.app {n m : Nat} {a b : List Nat} (h : Tx n a) (h' : Tx m b) : Tx (n + m) (a ++ b) := ⟨fun d hd => (List.mem_append.mp hd).elim (h.1 d) (h'.1 d), by have := h.2; have := h'.2; simp; omega⟩
theorem Tx.take {n k : Nat} {a : List Nat} (h : Tx n a) : Tx n (a.take k) := ⟨fun d hd => h.1 d (List.mem_of_mem_take hd), by have := h.2; simp; omega⟩
theorem Tx.drop {n k : Nat} {a : List Nat} (h : Tx n a) : Tx n (a.drop k) := ⟨fun d hd => h.1 d (List.mem_of_mem_drop hd), by have := h.2; simp; omega⟩
theorem Tx.one {b : Nat} (h : b < 128) : Tx 1 [b] := ⟨fun d hd => by simp at hd; omega, by simp⟩
/-- an item of an event -/
inductive Itm where
  | w (l : List Nat) | i (n : Nat)
def Itm.v : Itm → V
  | .w l => .str (S l)
  | .i n => .int (n : Int)
def Itm.tx : Itm → List Nat
  | .w l => l
  | .i n => dig n
def frm : List (List Nat × List Nat) := [([99, 111, 109, 101], [110, 110]), ([100, 114, 111, 112], [110]), ([101, 97, 114, 108, 121], [110]), ([116, 105, 99, 107], []), ([112, 111, 108, 105, 99, 121], [110, 110, 110, 110]), ([114, 101, 115, 101, 114, 118, 101], [110, 110, 105]), ([99, 108, 111, 115, 101], [110, 105, 105]), ([99, 97, 110, 99, 101, 108], [110, 105]), ([115, 104, 117, 116], [110]), ([114, 101, 111, 112, 101, 110], [110]), ([100, 114, 97, 105, 110], [110]), ([102, 97, 105, 108], [110]), ([114, 101, 112, 97, 105, 114], [110])]
def itm (k : Nat) (w : List Nat) : Option Itm := if k = 110 then some (.w w) else if num w = true ∧ w.length ≤ 6 then some (.i (digitsVal w)) else none
def itms : List Nat → List (List Nat) → Option (List Itm)
  | [], [] => some []
  | k :: ks, w :: ws => match itm k w with
    | none => none
    | some x => (itms ks ws).map (x :: ·)
  | _, _ => none
def look (h : List Nat) : Option (List Nat) := (frm.find? fun f => decide (f.1 = h)).map (·.2)
def rdW : List (List Nat) → Option (List Itm)
  | [] => none
  | h :: tl => match look h with
    | none => none
    | some ks => (itms ks tl).map (.w h :: ·)
/-- the event of a line -/
def rdE (l : List Nat) : Option (List Itm) := if 10 ∈ l ∨ [] ∈ parts 32 l then none else rdW (parts 32 l)
theorem itms_len : ∀ {ks : List Nat} {ws : List (List Nat)} {xs : List Itm}, itms ks ws = some xs → ws.length = ks.length ∧ xs.length = ks.length
  | [], [], _, h => by cases h; exact ⟨rfl, rfl⟩
  | k :: ks, w :: ws, xs, h => by
    unfold itms at h
    split at h
    · cases h
    · obtain ⟨ys, hy, rfl⟩ := Option.map_eq_some_iff.mp h
      obtain ⟨a, b⟩ := itms_len hy
      simp [a, b]
theorem itms_none {ks : List Nat} {ws : List (List Nat)} (h : ¬ ws.length = ks.length) : itms ks ws = none := by
  cases e : itms ks ws with
  | none => rfl
  | some xs => exact absurd (itms_len e).1 h
theorem rdW_none {h : List Nat} {tl ks : List Nat × List (List Nat)} : True := trivial
theorem parts_all {s : Nat} : ∀ {l p : List Nat} {d : Nat}, p ∈ parts s l → d ∈ p → d ∈ l
  | [], p, d, hp, hd => by
    simp [parts] at hp
    subst hp
    cases hd
  | c :: r, p, d, hp, hd => by
    by_cases e : c = s
    · have e2 : parts s (c :: r) = [] :: parts s r := by
        show (if c = s then [] :: parts s r else _) = _
        rw [if_pos e]
      rw [e2] at hp
      rcases List.mem_cons.mp hp with rfl | hp
      · cases hd
      · exact .tail _ (parts_all hp hd)
    · cases e3 : parts s r with
      | nil => exact absurd e3 (parts_ne s r)
      | cons q qs =>
        have e2 : parts s (c :: r) = (c :: q) :: qs := by
          show (if c = s then [] :: parts s r else match parts s r with | [] => [[c]] | p :: ps => (c :: p) :: ps) = _
          rw [if_neg e, e3]
        rw [e2] at hp
        rcases List.mem_cons.mp hp with rfl | hp
        · rcases List.mem_cons.mp hd with rfl | hd
          · exact .head _
          · exact .tail _ (parts_all (s := s) (l := r) (p := q) (by rw [e3]; exact .head _) hd)
        · exact .tail _ (parts_all (s := s) (l := r) (p := p) (by rw [e3]; exact .tail _ hp) hd)
theorem parts_len1 {s : Nat} : ∀ {l p : List Nat}, p ∈ parts s l → p.length ≤ l.length
  | [], p, hp => by simp [parts] at hp; subst hp; simp
  | c :: r, p, hp => by
    by_cases e : c = s
    · have e2 : parts s (c :: r) = [] :: parts s r := by
        show (if c = s then [] :: parts s r else _) = _
        rw [if_pos e]
      rw [e2] at hp
      rcases List.mem_cons.mp hp with rfl | hp
      · simp
      · have := parts_len1 hp
        simp
        omega
    · cases e3 : parts s r with
      | nil => exact absurd e3 (parts_ne s r)
      | cons q qs =>
        have e2 : parts s (c :: r) = (c :: q) :: qs := by
          show (if c = s then [] :: parts s r else match parts s r with | [] => [[c]] | p :: ps => (c :: p) :: ps) = _
          rw [if_neg e, e3]
        rw [e2] at hp
        rcases List.mem_cons.mp hp with rfl | hp
        · have := parts_len1 (s := s) (l := r) (p := q) (by rw [e3]; exact .head _)
          simp
          omega
        · have := parts_len1 (s := s) (l := r) (p := p) (by rw [e3]; exact .tail _ hp)
          simp
          omega
theorem parts_num {s : Nat} : ∀ (l : List Nat), (parts s l).length ≤ l.length + 1
  | [] => by simp [parts]
  | c :: r => by
    have ih := parts_num (s := s) r
    by_cases e : c = s
    · have e2 : parts s (c :: r) = [] :: parts s r := by
        show (if c = s then [] :: parts s r else _) = _
        rw [if_pos e]
      rw [e2]
      simp
      omega
    · cases e3 : parts s r with
      | nil => exact absurd e3 (parts_ne s r)
      | cons q qs =>
        have e2 : parts s (c :: r) = (c :: q) :: qs := by
          show (if c = s then [] :: parts s r else match parts s r with | [] => [[c]] | p :: ps => (c :: p) :: ps) = _
          rw [if_neg e, e3]
        rw [e2]
        rw [e3] at ih
        simp at ih ⊢
        omega
/-- the parts of words with blanks between them -/
theorem parts_app {s : Nat} {r : List Nat} : ∀ {p : List Nat}, s ∉ p → parts s (p ++ s :: r) = p :: parts s r
  | [], _ => by
    show (if s = s then [] :: parts s r else _) = _
    rw [if_pos rfl]
  | c :: p, h => by
    have hc : ¬ c = s := fun e => h (by rw [e]; exact .head _)
    have ih := parts_app (s := s) (r := r) (p := p) fun z => h (.tail _ z)
    show (if c = s then [] :: parts s (p ++ s :: r) else match parts s (p ++ s :: r) with | [] => [[c]] | p :: ps => (c :: p) :: ps) = _
    rw [if_neg hc, ih]
theorem parts_one {s : Nat} : ∀ {p : List Nat}, s ∉ p → parts s p = [p]
  | [], _ => rfl
  | c :: p, h => by
    have hc : ¬ c = s := fun e => h (by rw [e]; exact .head _)
    have ih := parts_one (s := s) (p := p) fun z => h (.tail _ z)
    show (if c = s then [] :: parts s p else match parts s p with | [] => [[c]] | p :: ps => (c :: p) :: ps) = _
    rw [if_neg hc, ih]
theorem parts_join {s : Nat} : ∀ {ws : List (List Nat)}, ws ≠ [] → (∀ p ∈ ws, s ∉ p) → parts s (GN.joinL [s] ws) = ws
  | [], h, _ => absurd rfl h
  | [p], _, h => parts_one (h p (.head _))
  | p :: q :: r, _, h => by
    show parts s (p ++ ([s] ++ GN.joinL [s] (q :: r))) = _
    rw [List.singleton_append, parts_app (h p (.head _)), parts_join (by simp) fun x hx => h x (.tail _ hx)]

theorem join_S32 : ∀ {ls : List (List Nat)}, Str.join (S [32]) (ls.map S) = S (GN.joinL [32] ls)
  | [] => rfl
  | [x] => rfl
  | x :: y :: r => by
    show S x ++ S [32] ++ Str.join (S [32]) ((y :: r).map S) = S (x ++ ([32] ++ GN.joinL [32] (y :: r)))
    rw [join_S32, S_app, S_app, List.append_assoc]
theorem glue_S32 {ls : List (List Nat)} : Txt.join (S [32]) (ls.map S) = S (GN.joinL [32] ls) := by
  show Builtin.Str.glued _ _ = _
  rw [StrLaws.glued_eq_join, join_S32]
theorem join_S0 : ∀ {ls : List (List Nat)}, Str.join (S []) (ls.map S) = S ls.flatten
  | [] => rfl
  | [x] => by rw [List.flatten_cons, List.flatten_nil, List.append_nil]; rfl
  | x :: y :: r => by
    show S x ++ S [] ++ Str.join (S []) ((y :: r).map S) = S (x ++ (y :: r).flatten)
    rw [join_S0, S_app, S_app, List.append_nil]
theorem glue_S0 {ls : List (List Nat)} : Txt.join (S []) (ls.map S) = S ls.flatten := by
  show Builtin.Str.glued _ _ = _
  rw [StrLaws.glued_eq_join, join_S0]
theorem joinL_sum : ∀ (ls : List (List Nat)), (GN.joinL [32] ls).length ≤ (ls.map fun l => l.length + 1).sum
  | [] => by simp [GN.joinL]
  | [x] => by simp [GN.joinL]
  | x :: y :: r => by
    have := joinL_sum (y :: r)
    simp only [GN.joinL, List.length_append, List.length_cons, List.length_nil, List.map_cons, List.sum_cons] at this ⊢
    omega
theorem joinL_mem : ∀ {ls : List (List Nat)} {d : Nat}, d ∈ GN.joinL [32] ls → d = 32 ∨ ∃ l ∈ ls, d ∈ l
  | [], d, h => by simp [GN.joinL] at h
  | [x], d, h => .inr ⟨x, .head _, h⟩
  | x :: y :: r, d, h => by
    rcases List.mem_append.mp (show d ∈ x ++ ([32] ++ GN.joinL [32] (y :: r)) from h) with h | h
    · exact .inr ⟨x, .head _, h⟩
    · rcases List.mem_append.mp h with h | h
      · exact .inl (by simpa using h)
      · rcases joinL_mem h with h | ⟨l, hl, hd⟩
        · exact .inl h
        · exact .inr ⟨l, .tail _ hl, hd⟩
theorem joinL_cons : ∀ (x : List Nat) (r : List (List Nat)), GN.joinL [32] (x :: r) = x ++ (r.map (32 :: ·)).flatten
  | x, [] => by simp [GN.joinL]
  | x, y :: r => by
    show x ++ ([32] ++ GN.joinL [32] (y :: r)) = _
    rw [joinL_cons y r]
    simp
theorem s_115_104_97_114_101 : Str.ofString "share" = S [115, 104, 97, 114, 101] := rfl
theorem s_114_97_110_107 : Str.ofString "rank" = S [114, 97, 110, 107] := rfl
theorem s_97_103_101 : Str.ofString "age" = S [97, 103, 101] := rfl
theorem s_115_104_111_114_116 : Str.ofString "short" = S [115, 104, 111, 114, 116] := rfl
theorem s_102_105_114_115_116 : Str.ofString "first" = S [102, 105, 114, 115, 116] := rfl
theorem s_116_105_103_104_116 : Str.ofString "tight" = S [116, 105, 103, 104, 116] := rfl
theorem s_108_111_111_115_101 : Str.ofString "loose" = S [108, 111, 111, 115, 101] := rfl
theorem s_110_101_118_101_114 : Str.ofString "never" = S [110, 101, 118, 101, 114] := rfl
theorem s_111_119_101_100 : Str.ofString "owed" = S [111, 119, 101, 100] := rfl
theorem s_97_110_121 : Str.ofString "any" = S [97, 110, 121] := rfl
theorem s_102_114_101_101 : Str.ofString "free" = S [102, 114, 101, 101] := rfl
theorem s_115_116_114_105_99_116 : Str.ofString "strict" = S [115, 116, 114, 105, 99, 116] := rfl
theorem s_104_111_108_100 : Str.ofString "hold" = S [104, 111, 108, 100] := rfl
theorem s_e : Str.ofString "" = S [] := rfl
theorem s_32 : Str.ofString " " = S [32] := rfl
theorem s_32_32 : Str.ofString "  " = S [32, 32] := rfl
theorem s_10 : Str.ofString "\n" = S [10] := rfl
section
variable {K : PySem.W.Frag} {H : Hp} {Q : VK} {a b : Addr} {xs : List V} {n : Nat}
theorem v_slLf (ha : H a = some (.lst xs)) (k : ∀ p H2, H p = none → Ext H H2 → H2 p = some (.lst (xs.drop n)) → Q (.ref p) H2) : uSl K (.ref a) (some (n : Int)) none H Q := by
  refine .inl ⟨a, xs, rfl, SqL.of ha, fun p hp => k p _ hp (Ext.new hp) ?_⟩
  rw [upd_same]
  have e : cutV xs (some (n : Int)) none = xs.drop n := by
    unfold cutV
    have e1 : HT.sIx xs.length xs.length none = xs.length := rfl
    rw [e1, HT.sIx_nat]
    rcases Nat.le_total n xs.length with h | h
    · rw [Nat.min_eq_left h, List.take_of_length_le (by simp)]
    · rw [Nat.min_eq_right h, List.drop_of_length_le (Nat.le_refl _), List.drop_of_length_le h]
      simp
  rw [e]
theorem v_slT1 {x : V} (ha : H a = some (.tup (x :: xs))) (k : ∀ p H2, Ext H H2 → H2 p = some (.tup xs) → Q (.ref p) H2) : uSl K (.ref a) (some 1) none H Q := by
  refine .inr (.inl ⟨a, x :: xs, rfl, SqT.of ha, fun h => ?_, fun _ p hp => ?_⟩)
  · have h1 : HT.sIx (x :: xs).length 0 (some ((1 : Nat) : Int)) = 0 := h.1
    rw [HT.sIx_nat] at h1
    simp at h1
  · refine k p _ (Ext.new hp) ?_
    rw [upd_same]
    have e : cutV (x :: xs) (some ((1 : Nat) : Int)) none = xs := by
      unfold cutV
      have e1 : HT.sIx (x :: xs).length (x :: xs).length none = (x :: xs).length := rfl
      rw [e1, HT.sIx_nat, Nat.min_eq_left (by simp)]
      simp
    rw [show (some (1 : Int)) = some ((1 : Nat) : Int) from rfl, e]
theorem v_ixP {P : Nat → Bool} {z : Str} {j : Nat} (hz : z.length ≤ 1000) (hj : j < z.cps.toList.length) (ha : z.cps.toList.all P = true) (q : ∀ b, P b = true → Q (.str (S [b])) H) : uIx K (.str z) (.int (j : Int)) H Q := by
  rw [S_of z]
  exact v_ixS (by rw [← S_of z, sizeLine_eq]; omega) (List.getElem?_eq_getElem hj) (q _ (List.all_eq_true.mp ha _ (List.getElem_mem hj)))
def isTx (m : Nat) : V → Bool
  | .str z => decide (z.cps.toList.length ≤ m) && z.cps.toList.all (· < 128)
  | _ => false
theorem v_ixTx {m : Nat} (ha : H a = some (.lst xs)) (hl : n < xs.length) (hall : xs.all (isTx m) = true) (q : ∀ l : List Nat, Tx m l → Q (.str (S l)) H) : uIx K (.ref a) (.int (n : Int)) H Q := by
  have h1 := List.all_eq_true.mp hall xs[n] (List.getElem_mem hl)
  have h2 := List.getElem?_eq_getElem hl
  generalize xs[n] = v at h1 h2
  refine v_ixLn ha h2 ?_
  cases v with
  | str z =>
    rw [S_of z]
    obtain ⟨h3, h4⟩ := Bool.and_eq_true_iff.mp (show (decide (z.cps.toList.length ≤ m) && z.cps.toList.all (· < 128)) = true from h1)
    exact q _ ⟨fun d hd => by simpa using List.all_eq_true.mp h4 d hd, of_decide_eq_true h3⟩
  | _ => cases h1
theorem not_false : ∀ n : Nat, inV (.bl false) ((List.range n).map fun _ => V.bl true) = false := by
  intro n
  unfold inV
  rw [List.any_eq_false]
  intro y hy
  obtain ⟨i, _, rfl⟩ := List.mem_map.mp hy
  decide
theorem flat_true : ∀ n : Nat, ((List.range n).map fun _ => V.bl true).all flatV = true := by
  intro n
  rw [List.all_eq_true]
  intro y hy
  obtain ⟨i, _, rfl⟩ := List.mem_map.mp hy
  rfl
theorem v_notF (ha : H a = some (.lst ((List.range n).map fun _ => V.bl true))) (q : Q (.bl true) H) : uNotinX K (.bl false) (.ref a) H Q := .inl ⟨a, _, rfl, .inl (SqL.of ha), rfl, flat_true n, by rw [if_pos rfl, not_false]; exact q⟩
theorem v_ixTn {v : V} (ha : H a = some (.tup xs)) (h : xs[n]? = some v) (q : Q v H) : uIx K (.ref a) (.int (n : Int)) H Q := v_ixT ha (by omega) h q
theorem v_isiB {s t u : String} {r1 r2 r : Bool} {x : V} {tp : Addr} (hr : (r1 || r2) = r) (hT : H tp = some (.tup [.ty s, .ty u])) (ty : TyX K H x (.type t)) (h1 : kitB t s = some r1) (h2 : kitB t u = some r2) (q : Q (.bl r) H) : rIsiT K [x, .ref tp] H Q := v_isi2 hT ty h1 h2 (by rw [hr]; exact q)
theorem v_isRL {vs : List V} (ha : H a = some (.tup vs)) (q : Q (.bl false) H) : rIsi K [.ref a, .ty "list"] H Q := ⟨.ref a, .ty "list", .type "tuple", .type "list", false, rfl, .ty _, .base (.tup ha), kit_ty (by decide +kernel), q⟩
theorem v_isSB {x : Str} (q : Q (.bl false) H) : rIsi K [.str x, .ty "bool"] H Q := ⟨.str x, .ty "bool", .type "str", .type "bool", false, rfl, .ty _, .base (.str x), kit_ty (by decide +kernel), q⟩
theorem v_isSI {x : Str} (q : Q (.bl false) H) : rIsi K [.str x, .ty "int"] H Q := ⟨.str x, .ty "int", .type "str", .type "int", false, rfl, .ty _, .base (.str x), kit_ty (by decide +kernel), q⟩
theorem strOk_lt {l : List Nat} (h : ∀ d ∈ l, d < 128) : PyData.strOk (S l) = true := by
  simp only [PyData.strOk, List.all_toArray, List.all_eq_true, decide_eq_true_eq]
  intro d hd
  have := h d hd
  omega
theorem v_eqL1 {f g : List Nat} (hf : ∀ d ∈ f, d < 128) (hg : ∀ d ∈ g, d < 128) {t : Addr} (ha : H a = some (.lst [.ref t])) (ht : H t = some (.tup [.str (S f), .str (S g)])) (hb : H b = some (.lst [])) (q : Q (.bl false) H) : uEq K (.ref a) (.ref b) H Q :=
  .inr ⟨_, _, .lst (SqL.of ha) (.cons (.tup (SqT.of ht) (dp_strs (ms := [S f, S g]))) .nil), .lst (SqL.of hb) .nil, by
    unfold SeqAt.shaped PyData.canLay0 PyData.depth PyData.canLayAll0 PyData.depthAll PyData.canLayAll0 PyData.depthAll PyData.canLay0 PyData.depth
    have := lay_strs (ms := [S f, S g]) (fun m hm => by
      rcases List.mem_cons.mp hm with rfl | hm
      · exact strOk_lt hf
      · rw [List.mem_singleton.mp hm]; exact strOk_lt hg)
    rw [this.1, this.2]
    rfl, by decide +kernel, by
    have e : PyData.eqv (.list [.tuple ([S f, S g].map PyData.str)]) (.list []) = false := by simp only [PyData.eqv, PyData.eqvAll]
    rw [e]
    exact q⟩
end

theorem isTx_S {m : Nat} {l : List Nat} (h : Tx m l) : isTx m (.str (S l)) = true := by
  unfold isTx
  rw [Bool.and_eq_true]
  exact ⟨decide_eq_true (by rw [S_cps]; exact h.2), by rw [S_cps]; exact List.all_eq_true.mpr fun d hd => decide_eq_true (h.1 d hd)⟩
theorem strs_eq (ls : List (List Nat)) : ls.map (fun x => V.str (S x)) = (ls.map S).map V.str := by rw [List.map_map]; rfl
theorem mem_S {x : List Nat} {ls : List (List Nat)} : S x ∈ ls.map S ↔ x ∈ ls := ⟨fun h => by obtain ⟨y, hy, e⟩ := List.mem_map.mp h; rw [← S_inj e]; exact hy, fun h => List.mem_map.mpr ⟨x, h, rfl⟩⟩

/-- the words of the four menus -/
def mO : List (List Nat) := [[115, 104, 97, 114, 101], [114, 97, 110, 107], [97, 103, 101], [115, 104, 111, 114, 116]]
def mP : List (List Nat) := [[102, 105, 114, 115, 116], [116, 105, 103, 104, 116], [108, 111, 111, 115, 101]]
def mE : List (List Nat) := [[110, 101, 118, 101, 114], [111, 119, 101, 100], [97, 110, 121]]
def mF : List (List Nat) := [[102, 114, 101, 101], [115, 116, 114, 105, 99, 116], [104, 111, 108, 100]]
def men : List (List (List Nat)) := [mO, mP, mE, mF]
def mn (i : Nat) : List (List Nat) := men.getD i []

/-- the words are good -/
def ok4 (ws : List (List Nat)) : Prop := ws.length = 4 ∧ ∀ j, j < 4 → ws.getD j [] ∈ mn j
/-- the i-th word is the first that is wrong -/
def fw (ws : List (List Nat)) (i : Nat) : Prop := i < 4 ∧ ws.getD i [] ∉ mn i ∧ ∀ j, j < i → ws.getD j [] ∈ mn j
theorem ok_or {ws : List (List Nat)} (h : ws.length = 4) : ok4 ws ∨ ∃ i, fw ws i := by
  by_cases h0 : ws.getD 0 [] ∈ mn 0
  · by_cases h1 : ws.getD 1 [] ∈ mn 1
    · by_cases h2 : ws.getD 2 [] ∈ mn 2
      · by_cases h3 : ws.getD 3 [] ∈ mn 3
        · refine .inl ⟨h, fun j hj => ?_⟩
          match j, hj with
          | 0, _ => exact h0
          | 1, _ => exact h1
          | 2, _ => exact h2
          | 3, _ => exact h3
        · exact .inr ⟨3, by decide, h3, fun j hj => by match j, hj with | 0, _ => exact h0 | 1, _ => exact h1 | 2, _ => exact h2⟩
      · exact .inr ⟨2, by decide, h2, fun j hj => by match j, hj with | 0, _ => exact h0 | 1, _ => exact h1⟩
    · exact .inr ⟨1, by decide, h1, fun j hj => by match j, hj with | 0, _ => exact h0⟩
  · exact .inr ⟨0, by decide, h0, fun j hj => by omega⟩
theorem fw_no {ws : List (List Nat)} {i : Nat} (h : fw ws i) : ¬ ok4 ws := fun z => h.2.1 (z.2 i h.1)
theorem fw_eq {ws : List (List Nat)} {i j : Nat} (h : fw ws i) (h' : fw ws j) : i = j := by
  rcases Nat.lt_trichotomy i j with z | z | z
  · exact absurd (h'.2.2 i z) h.2.1
  · exact z
  · exact absurd (h.2.2 j z) h'.2.1
/-- the texts as values -/
def tv (ws : List (List Nat)) : List V := ws.map fun x => V.str (S x)
theorem tv_S (ws : List (List Nat)) : tv ws = (ws.map S).map V.str := strs_eq ws
theorem tv_len (ws : List (List Nat)) : (tv ws).length = ws.length := by simp [tv]
theorem tv_at {ws : List (List Nat)} {i : Nat} (h : i < ws.length) : (tv ws)[i]? = some (.str (S (ws.getD i []))) := by
  unfold tv
  rw [List.getElem?_map, List.getElem?_eq_getElem h, List.getD_eq_getElem?_getD, List.getElem?_eq_getElem h]
  rfl
/-- the words at a, in a list or a tuple -/
def WAt (H : Hp) (a : Addr) (ws : List (List Nat)) : Prop := H a = some (.tup (tv ws)) ∨ H a = some (.lst (tv ws))
def row (j : Nat) : List (List Nat) := [mO.getD (j / 27) [], mP.getD (j / 9 % 3) [], mE.getD (j / 3 % 3) [], mF.getD (j % 3) []]
theorem row_len (j : Nat) : (row j).length = 4 := rfl
def idx (ws : List (List Nat)) : Nat := 27 * mO.idxOf (ws.getD 0 []) + 9 * mP.idxOf (ws.getD 1 []) + 3 * mE.idxOf (ws.getD 2 []) + mF.idxOf (ws.getD 3 [])
theorem idx_row : ∀ j, j < 108 → idx (row j) = j := by decide +kernel
theorem row_inj {i j : Nat} (hi : i < 108) (hj : j < 108) (h : row i = row j) : i = j := by rw [← idx_row i hi, ← idx_row j hj, h]
theorem row_at {a b d e : Nat} (hb : b < 3) (hd : d < 3) (he : e < 3) : row (27 * a + 9 * b + 3 * d + e) = [mO.getD a [], mP.getD b [], mE.getD d [], mF.getD e []] := by
  unfold row
  rw [show (27 * a + 9 * b + 3 * d + e) / 27 = a by omega, show (27 * a + 9 * b + 3 * d + e) / 9 % 3 = b by omega, show (27 * a + 9 * b + 3 * d + e) / 3 % 3 = d by omega, show (27 * a + 9 * b + 3 * d + e) % 3 = e by omega]
theorem row_ok : ∀ j, j < 108 → ok4 (row j) := by
  intro j hj
  refine ⟨rfl, fun i hi => ?_⟩
  match i, hi with
  | 0, _ => exact (show ∀ a, a < 4 → mO.getD a [] ∈ mO from by decide +kernel) _ (by omega)
  | 1, _ => exact (show ∀ a, a < 3 → mP.getD a [] ∈ mP from by decide +kernel) _ (by omega)
  | 2, _ => exact (show ∀ a, a < 3 → mE.getD a [] ∈ mE from by decide +kernel) _ (by omega)
  | 3, _ => exact (show ∀ a, a < 3 → mF.getD a [] ∈ mF from by decide +kernel) _ (by omega)
theorem mem_getD : ∀ {ms : List (List Nat)} {w : List Nat}, w ∈ ms → ∃ i, i < ms.length ∧ ms.getD i [] = w := by
  intro ms w h
  obtain ⟨i, hi, e⟩ := List.mem_iff_getElem.mp h
  exact ⟨i, hi, by rw [List.getD_eq_getElem?_getD, List.getElem?_eq_getElem hi]; exact e⟩
theorem ok_row {ws : List (List Nat)} (h : ok4 ws) : ∃ j, j < 108 ∧ ws = row j := by
  obtain ⟨hl, hw⟩ := h
  match ws, hl with
  | [w0, w1, w2, w3], _ =>
    obtain ⟨a, ha, ea⟩ := mem_getD (hw 0 (by decide))
    obtain ⟨b, hb, eb⟩ := mem_getD (hw 1 (by decide))
    obtain ⟨d, hd, ed⟩ := mem_getD (hw 2 (by decide))
    obtain ⟨e, he, ee⟩ := mem_getD (hw 3 (by decide))
    have ha' : a < 4 := ha
    have hb' : b < 3 := hb
    have hd' : d < 3 := hd
    have he' : e < 3 := he
    refine ⟨27 * a + 9 * b + 3 * d + e, by omega, ?_⟩
    rw [row_at hb' hd' he']
    have ea' : mO.getD a [] = w0 := ea
    have eb' : mP.getD b [] = w1 := eb
    have ed' : mE.getD d [] = w2 := ed
    have ee' : mF.getD e [] = w3 := ee
    rw [ea', eb', ed', ee']
theorem men_tx : ∀ m ∈ men, ∀ w ∈ m, (w.all fun d => decide (d < 128)) = true ∧ w.length ≤ 10 ∧ 1 ≤ w.length ∧ 32 ∉ w := by decide +kernel
theorem mn_tx {i : Nat} {w : List Nat} (h : w ∈ mn i) : Tx 10 w ∧ 1 ≤ w.length ∧ 32 ∉ w := by
  unfold mn at h
  rw [List.getD_eq_getElem?_getD] at h
  cases e : men[i]? with
  | none => rw [e] at h; exact absurd h (by simp)
  | some m =>
    rw [e] at h
    obtain ⟨h1, h2, h3, h4⟩ := men_tx m (List.mem_of_getElem? e) w h
    exact ⟨⟨fun d hd => by simpa using List.all_eq_true.mp h1 d hd, h2⟩, h3, h4⟩
theorem ok_tx {ws : List (List Nat)} (h : ok4 ws) : ∀ w ∈ ws, Tx 10 w ∧ 32 ∉ w := by
  intro w hw
  obtain ⟨i, hi, e⟩ := List.mem_iff_getElem.mp hw
  have h1 := h.2 i (by have := h.1; omega)
  rw [List.getD_eq_getElem?_getD, List.getElem?_eq_getElem hi] at h1
  have h2 : ws[i] ∈ mn i := h1
  rw [e] at h2
  exact ⟨(mn_tx h2).1, (mn_tx h2).2.2⟩
theorem ok_parts {ws : List (List Nat)} (h : ok4 ws) : parts 32 (GN.joinL [32] ws) = ws := parts_join (by intro z; rw [z] at h; exact absurd h.1 (by decide)) fun p hp => (ok_tx h p hp).2
theorem join_parts : ∀ (l : List Nat), GN.joinL [32] (parts 32 l) = l
  | [] => rfl
  | c :: r => by
    have ih := join_parts r
    show GN.joinL [32] (if c = 32 then [] :: parts 32 r else match parts 32 r with | [] => [[c]] | p :: ps => (c :: p) :: ps) = _
    by_cases h : c = 32
    · subst h
      rw [if_pos rfl]
      cases e : parts 32 r with
      | nil => exact absurd e (parts_ne 32 r)
      | cons p ps =>
        rw [e] at ih
        show [] ++ ([32] ++ GN.joinL [32] (p :: ps)) = _
        rw [ih]
        rfl
    · rw [if_neg h]
      cases e : parts 32 r with
      | nil => exact absurd e (parts_ne 32 r)
      | cons p ps =>
        rw [e] at ih
        show GN.joinL [32] ((c :: p) :: ps) = _
        cases ps with
        | nil => show c :: p = _; rw [show p = r from ih]
        | cons q qs =>
          show c :: p ++ ([32] ++ GN.joinL [32] (q :: qs)) = _
          rw [← ih]
          rfl
theorem ok_join_tx {ws : List (List Nat)} (h : ok4 ws) : Tx 44 (GN.joinL [32] ws) := by
  refine ⟨fun d hd => ?_, ?_⟩
  · rcases joinL_mem hd with z | ⟨l, hl, hd⟩
    · omega
    · exact (ok_tx h l hl).1.1 d hd
  · have := joinL_sum ws
    match ws, h.1 with
    | [w0, w1, w2, w3], _ =>
      have h0 := (ok_tx h w0 (by simp)).1.2
      have h1 := (ok_tx h w1 (by simp)).1.2
      have h2 := (ok_tx h w2 (by simp)).1.2
      have h3 := (ok_tx h w3 (by simp)).1.2
      simp at this
      omega
/-- where two differ -/
def dif (ws vs : List (List Nat)) : List Int := ((List.range 4).filter fun j => decide (ws.getD j [] ≠ vs.getD j [])).map fun (j : Nat) => (j : Int)
theorem dif_nil {ws vs : List (List Nat)} (h : ws.length = 4) (h' : vs.length = 4) : dif ws vs = [] ↔ ws = vs := by
  unfold dif
  rw [List.map_eq_nil_iff, List.filter_eq_nil_iff]
  constructor
  · intro z
    match ws, vs, h, h' with
    | [a, b, d, e], [a', b', d', e'], _, _ =>
      have z0 := z 0 (by decide)
      have z1 := z 1 (by decide)
      have z2 := z 2 (by decide)
      have z3 := z 3 (by decide)
      simp only [decide_eq_true_eq, Decidable.not_not] at z0 z1 z2 z3
      rw [show a = a' from z0, show b = b' from z1, show d = d' from z2, show e = e' from z3]
  · rintro rfl j _
    simp
/-- the slots of a policy -/
def pf (ws : List (List Nat)) (u : Addr) : List (Str × V) := [("order", .str (S (ws.getD 0 []))), ("place", .str (S (ws.getD 1 []))), ("evict", .str (S (ws.getD 2 []))), ("fill", .str (S (ws.getD 3 []))), ("all_words", .ref u)]
/-- b is the policy of ws -/
def Pol (c : Ad) (H : Hp) (b : Addr) (ws : List (List Nat)) : Prop := ∃ dx u, H b = some (.ins c.Policy dx (pf ws u)) ∧ H u = some (.tup (tv ws)) ∧ ok4 ws
section
variable {c : Ad} {H H' : Hp} {a b p : Addr} {ws : List (List Nat)}
theorem Pol.ins (h : Pol c H b ws) : ∃ dx fs, H b = some (.ins c.Policy dx fs) := by
  obtain ⟨dx, u, h1, _⟩ := h
  exact ⟨dx, _, h1⟩
theorem WAt.ext (h : WAt H a ws) (e : Ext H H') : WAt H' a ws := h.elim (fun h => .inl (e.look h)) fun h => .inr (e.look h)
theorem Pol.ext (h : Pol c H b ws) (e : Ext H H') : Pol c H' b ws := by
  obtain ⟨dx, u, h1, h2, h3⟩ := h
  exact ⟨dx, u, e.look h1, e.look h2, h3⟩
theorem Pol.but (h : Pol c H b ws) (e : But p H H') (hp : ∃ xs, H p = some (.lst xs)) : Pol c H' b ws := by
  obtain ⟨dx, u, h1, h2, h3⟩ := h
  obtain ⟨xs, hx⟩ := hp
  exact ⟨dx, u, e.lookK hx h1 (fun hh => nomatch hh), e.lookK hx h2 (fun hh => nomatch hh), h3⟩
end
/-- the i-th of out is the policy of the i-th row -/
def PolsN (c : Ad) (H : Hp) (out : List V) (n : Nat) : Prop := ∃ bs : List Addr, out = bs.map V.ref ∧ bs.length = n ∧ ∀ j b, bs[j]? = some b → Pol c H b (row j)
theorem PolsN.ext {c : Ad} {H H' : Hp} {out : List V} {n : Nat} (h : PolsN c H out n) (e : Ext H H') : PolsN c H' out n := by
  obtain ⟨bs, h1, h2, h3⟩ := h
  exact ⟨bs, h1, h2, fun j b hj => (h3 j b hj).ext e⟩
theorem PolsN.add {c : Ad} {H : Hp} {out : List V} {n : Nat} {b : Addr} (h : PolsN c H out n) (hb : Pol c H b (row n)) : PolsN c H (out ++ [.ref b]) (n + 1) := by
  obtain ⟨bs, rfl, h2, h3⟩ := h
  refine ⟨bs ++ [b], by simp, by simp [h2], fun j d hj => ?_⟩
  by_cases hi : j < bs.length
  · rw [List.getElem?_append_left hi] at hj
    exact h3 j d hj
  · rw [List.getElem?_append_right (by omega)] at hj
    have e : j = n := by
      cases e : j - bs.length with
      | zero => omega
      | succ k => rw [e] at hj; simp at hj
    subst e
    rw [h2, Nat.sub_self] at hj
    cases hj
    exact hb
theorem PolsN.nil {c : Ad} {H : Hp} : PolsN c H [] 0 := ⟨[], rfl, rfl, by simp⟩
/-- the menus in the heap -/
def MnAt (H : Hp) (p : Addr) : Prop := ∃ a0 a1 a2 a3, H p = some (.tup [.ref a0, .ref a1, .ref a2, .ref a3]) ∧ H a0 = some (.tup (tv mO)) ∧ H a1 = some (.tup (tv mP)) ∧ H a2 = some (.tup (tv mE)) ∧ H a3 = some (.tup (tv mF))
theorem MnAt.ext {H H' : Hp} {p : Addr} (h : MnAt H p) (e : Ext H H') : MnAt H' p := by
  obtain ⟨a0, a1, a2, a3, h, h0, h1, h2, h3⟩ := h
  exact ⟨a0, a1, a2, a3, e.look h, e.look h0, e.look h1, e.look h2, e.look h3⟩
theorem MnAt.but {H H' : Hp} {p q : Addr} (h : MnAt H p) (e : But q H H') (hq : ∃ xs, H q = some (.lst xs)) : MnAt H' p := by
  obtain ⟨a0, a1, a2, a3, h, h0, h1, h2, h3⟩ := h
  obtain ⟨xs, hx⟩ := hq
  exact ⟨a0, a1, a2, a3, e.lookK hx h (fun hh => nomatch hh), e.lookK hx h0 (fun hh => nomatch hh), e.lookK hx h1 (fun hh => nomatch hh), e.lookK hx h2 (fun hh => nomatch hh), e.lookK hx h3 (fun hh => nomatch hh)⟩
/-- the i-th menu -/
theorem MnAt.at {H : Hp} {p : Addr} (h : MnAt H p) {i : Nat} (hi : i < 4) : ∃ (xs : List V) (a : Addr), H p = some (.tup xs) ∧ xs[i]? = some (.ref a) ∧ H a = some (.tup (tv (mn i))) := by
  obtain ⟨a0, a1, a2, a3, h, h0, h1, h2, h3⟩ := h
  match i, hi with
  | 0, _ => exact ⟨_, a0, h, rfl, h0⟩
  | 1, _ => exact ⟨_, a1, h, rfl, h1⟩
  | 2, _ => exact ⟨_, a2, h, rfl, h2⟩
  | 3, _ => exact ⟨_, a3, h, rfl, h3⟩
/-- the i-th of the list's tuples holds the i-th row -/
def RowsN (H : Hp) (us : List Addr) (n : Nat) : Prop := us.length = n ∧ ∀ j u, us[j]? = some u → H u = some (.tup (tv (row j)))
def RowsAt (H : Hp) (p : Addr) : Prop := ∃ us : List Addr, H p = some (.lst (us.map V.ref)) ∧ RowsN H us 108
theorem RowsN.ext {H H' : Hp} {us : List Addr} {n : Nat} (h : RowsN H us n) (e : Ext H H') : RowsN H' us n := ⟨h.1, fun j u hj => e.look (h.2 j u hj)⟩
theorem RowsN.but {H H' : Hp} {us : List Addr} {n : Nat} {p : Addr} (h : RowsN H us n) (e : But p H H') (hp : ∃ xs, H p = some (.lst xs)) : RowsN H' us n := ⟨h.1, fun j u hj => by
  obtain ⟨xs, hx⟩ := hp
  exact e.lookK hx (h.2 j u hj) (fun hh => nomatch hh)⟩
theorem RowsN.add {H : Hp} {us : List Addr} {n : Nat} {u : Addr} (h : RowsN H us n) (hu : H u = some (.tup (tv (row n)))) : RowsN H (us ++ [u]) (n + 1) := by
  obtain ⟨h2, h3⟩ := h
  refine ⟨by simp [h2], fun j d hj => ?_⟩
  by_cases hi : j < us.length
  · rw [List.getElem?_append_left hi] at hj
    exact h3 j d hj
  · rw [List.getElem?_append_right (by omega)] at hj
    have e : j = n := by
      cases e : j - us.length with
      | zero => omega
      | succ k => rw [e] at hj; simp at hj
    subst e
    rw [h2, Nat.sub_self] at hj
    cases hj
    exact hu
theorem RowsAt.ext {H H' : Hp} {p : Addr} (h : RowsAt H p) (e : Ext H H') : RowsAt H' p := by
  obtain ⟨us, h1, h2⟩ := h
  exact ⟨us, e.look h1, h2.ext e⟩
theorem RowsAt.at {H : Hp} {p : Addr} (h : RowsAt H p) {i : Nat} (hi : i < 108) : ∃ (xs : List V) (a : Addr), H p = some (.lst xs) ∧ xs[i]? = some (.ref a) ∧ H a = some (.tup (tv (row i))) := by
  obtain ⟨us, h1, h2, h3⟩ := h
  refine ⟨_, us[i]'(by omega), h1, by rw [List.getElem?_map, List.getElem?_eq_getElem (by omega)]; rfl, h3 i _ (List.getElem?_eq_getElem (by omega))⟩
theorem But.lst {H H' : Hp} {p : Addr} {xs : List V} (_ : H p = some (.lst xs)) : ∃ ys, H p = some (.lst ys) := ⟨xs, by assumption⟩
theorem ok_sum {ws : List (List Nat)} (h : ok4 ws) : (ws.map (·.length + 1)).sum ≤ 1000000 := by
  match ws, h.1 with
  | [w0, w1, w2, w3], _ =>
    have h0 := (ok_tx h w0 (by simp)).1.2
    have h1 := (ok_tx h w1 (by simp)).1.2
    have h2 := (ok_tx h w2 (by simp)).1.2
    have h3 := (ok_tx h w3 (by simp)).1.2
    simp
    omega
section
variable {K : PySem.W.Frag} {H : Hp} {Q : VK} {a b : Addr} {ws vs : List (List Nat)} {x : List Nat}
theorem strOk_tv (h : ∀ w ∈ ws, ∀ d ∈ w, d < 128) : ∀ m ∈ ws.map S, PyData.strOk m = true := by
  intro m hm
  obtain ⟨w, hw, rfl⟩ := List.mem_map.mp hm
  exact strOk_lt (h w hw)
theorem map_S_inj : ∀ {ws vs : List (List Nat)}, ws.map S = vs.map S ↔ ws = vs := by
  intro ws vs
  constructor
  · intro h
    induction ws generalizing vs with
    | nil => cases vs with | nil => rfl | cons v vs => simp at h
    | cons w ws ih =>
      cases vs with
      | nil => simp at h
      | cons v vs =>
        simp only [List.map_cons, List.cons.injEq] at h
        rw [S_inj h.1, ih h.2]
  · rintro rfl
    rfl
theorem v_eqTv (ha : H a = some (.tup (tv ws))) (hb : H b = some (.tup (tv vs))) (h1 : ∀ w ∈ ws, ∀ d ∈ w, d < 128) (h2 : ∀ w ∈ vs, ∀ d ∈ w, d < 128) (q : Q (.bl (decide (ws = vs))) H) : uEq K (.ref a) (.ref b) H Q := by
  rw [tv_S] at ha hb
  refine v_eqTS (strOk_tv h1) (strOk_tv h2) ha hb ?_
  rw [dec_congr map_S_inj]
  exact q
theorem v_eqLv (ha : H a = some (.lst (tv ws))) (hb : H b = some (.lst (tv vs))) (h1 : ∀ w ∈ ws, ∀ d ∈ w, d < 128) (h2 : ∀ w ∈ vs, ∀ d ∈ w, d < 128) (q : Q (.bl (decide (ws = vs))) H) : uEq K (.ref a) (.ref b) H Q := by
  rw [tv_S] at ha hb
  refine v_eqLS (strOk_tv h1) (strOk_tv h2) ha hb ?_
  rw [dec_congr map_S_inj]
  exact q
theorem v_neLv (ha : H a = some (.lst (tv ws))) (hb : H b = some (.lst (tv vs))) (h1 : ∀ w ∈ ws, ∀ d ∈ w, d < 128) (h2 : ∀ w ∈ vs, ∀ d ∈ w, d < 128) (q : Q (.bl (!decide (ws = vs))) H) : uNe K (.ref a) (.ref b) H Q := by
  rw [tv_S] at ha hb
  refine v_neLS (strOk_tv h1) (strOk_tv h2) ha hb ?_
  rw [dec_congr map_S_inj]
  exact q
theorem v_notinTv (ha : SqT K H a (tv ws)) (q : Q (.bl (!decide (x ∈ ws))) H) : uNotinX K (.str (S x)) (.ref a) H Q := by
  rw [tv_S] at ha
  refine v_notinSq ha ?_
  rw [dec_congr mem_S]
  exact q
theorem v_joinTv (h : H a = some (.tup (tv ws)) ∨ H a = some (.lst (tv ws))) (hz : (ws.map (·.length + 1)).sum ≤ 1000000) (q : Q (.str (S (GN.joinL [32] ws))) H) : rJoin K (.str (S [32])) [.ref a] H Q := by
  have hs : ((ws.map S).map (·.length)).sum + (ws.map S).length * (S [32]).length ≤ 16777216 := by
    have e : ∀ ws : List (List Nat), ((ws.map S).map (·.length)).sum + (ws.map S).length * (S [32]).length = (ws.map (·.length + 1)).sum := by
      intro ws
      induction ws with
      | nil => rfl
      | cons w ws ih =>
        simp only [List.map_cons, List.sum_cons, List.length_cons, S_len, List.length_map, List.length_nil] at ih ⊢
        omega
    rw [e]
    omega
  rw [tv_S] at h
  refine ⟨S [32], a, ws.map S, rfl, rfl, h.elim (fun h => .inr (SqT.of h)) (fun h => .inl (SqL.of h)), hs, ?_⟩
  rw [glue_S32]
  exact q
theorem v_ixW {i : Nat} (h : WAt H a ws) (hi : i < ws.length) (q : Q (.str (S (ws.getD i []))) H) : uIx K (.ref a) (.int (i : Int)) H Q :=
  h.elim (fun h => v_ixTn h (tv_at hi) q) fun h => v_ixLn h (tv_at hi) q
theorem v_listW (h : WAt H a ws) (k : ∀ p H2, H p = none → Ext H H2 → H2 p = some (.lst (tv ws)) → Q (.ref p) H2) : cList K [.ref a] H Q := h.elim (fun h => v_listT h k) fun h => v_listL h k
end

def sg1 : List Nat := [32, 33, 34, 35, 36, 38, 39, 40, 41, 42, 43, 44, 45, 46, 47, 48, 49, 50, 51, 52, 53, 54, 55, 56, 57, 58, 59, 60, 61, 62, 63, 64, 65, 66, 67, 68, 69, 70, 71, 72, 73, 74, 75, 76, 77, 78, 79, 80, 81, 82, 83, 84, 85, 86, 87, 88, 89, 90, 91, 92, 93, 94, 95, 96]
def sg2 : List Nat := [97, 98, 99, 100, 101, 102, 103, 104, 105, 106, 107, 108, 109, 110, 111, 112, 113, 114, 115, 116, 117, 118, 119, 120, 121, 122, 123, 124, 125, 126, 10]
theorem s_sg1 : Str.ofString " !\"#$&'()*+,-./0123456789:;<=>?@ABCDEFGHIJKLMNOPQRSTUVWXYZ[\\]^_`" = S sg1 := rfl
theorem s_sg2 : Str.ofString "abcdefghijklmnopqrstuvwxyz{|}~\n" = S sg2 := rfl
theorem sg_len : (sg1 ++ sg2).length = 95 := by decide +kernel
theorem sg_lt : ∀ d ∈ sg1 ++ sg2, d < 128 := by decide +kernel

theorem up_tx : ∀ m ∈ men, ∀ w ∈ m, ((Txt.upper (S w)).cps.toList.all fun d => decide (d < 128)) = true ∧ (Txt.upper (S w)).cps.toList.length ≤ 60 := by decide +kernel
theorem mn_mem {i : Nat} {w : List Nat} (h : w ∈ mn i) : ∃ m ∈ men, w ∈ m := by
  unfold mn at h
  rw [List.getD_eq_getElem?_getD] at h
  cases e : men[i]? with
  | none => rw [e] at h; exact absurd h (by simp)
  | some m => rw [e] at h; exact ⟨m, List.mem_of_getElem? e, h⟩
theorem mn_len : ∀ i, i < 4 → 3 ≤ (mn i).length ∧ (mn i).length ≤ 4 := by decide +kernel
theorem getD_mem {ms : List (List Nat)} {i : Nat} (h : i < ms.length) : ms.getD i [] ∈ ms := by
  rw [List.getD_eq_getElem?_getD, List.getElem?_eq_getElem h]
  exact List.getElem_mem h
theorem join_tx {ws : List (List Nat)} (h : ∀ w ∈ ws, Tx 60 w) (hl : ws.length ≤ 8) : Tx 1000 (GN.joinL [32] ws) ∧ (ws.map (·.length + 1)).sum ≤ 1000000 := by
  have hs : (ws.map (·.length + 1)).sum ≤ 61 * ws.length := by
    clear hl
    induction ws with
    | nil => simp
    | cons w ws ih =>
      have := ih fun w hw => h w (List.mem_cons_of_mem _ hw)
      have h1 := (h w (.head _)).2
      simp only [List.map_cons, List.sum_cons, List.length_cons]
      omega
  have := joinL_sum ws
  refine ⟨⟨fun d hd => ?_, by omega⟩, by omega⟩
  rcases joinL_mem hd with z | ⟨l, hl, hd⟩
  · omega
  · exact (h l hl).1 d hd
/-- the drawn numbers -/
def Nums (H : Hp) (p : Addr) : Prop := ∃ ns : List Int, H p = some (.lst (ns.map V.int)) ∧ 16 ≤ ns.length ∧ ∀ n ∈ ns, 0 ≤ n ∧ n < 5040
theorem Nums.ext {H H' : Hp} {p : Addr} (h : Nums H p) (e : Ext H H') : Nums H' p := by
  obtain ⟨ns, h1, h2⟩ := h
  exact ⟨ns, e.look h1, h2⟩
theorem Nums.but {H H' : Hp} {p q : Addr} (h : Nums H p) (e : But q H H') (hq : q ≠ p) : Nums H' p := by
  obtain ⟨ns, h1, h2⟩ := h
  exact ⟨ns, e.look (Ne.symm hq) h1, h2⟩
section
variable {K : PySem.W.Frag} {H : Hp} {Q : VK} {a p : Addr} {xs : List V}
theorem v_num {z : Int} (h : Nums H p) (h0 : 0 ≤ z) (h1 : z < 16) (q : ∀ n : Nat, n < 5040 → Q (.int (n : Int)) H) : uIx K (.ref p) (.int z) H Q := by
  obtain ⟨ns, hp, hl, hb⟩ := h
  have hz : z.toNat < ns.length := by omega
  have hn := hb _ (List.getElem_mem hz)
  refine v_ixL hp h0 (by rw [List.getElem?_map, List.getElem?_eq_getElem hz]; rfl) ?_
  have e := Int.toNat_of_nonneg hn.1
  rw [← e]
  exact q _ (by omega)
theorem v_ixSq {n : Nat} {v : V} (ha : SqL K H a xs) (h : xs[n]? = some v) (q : Q v H) : uIx K (.ref a) (.int (n : Int)) H Q := .inl ⟨a, xs, (n : Int), v, rfl, rfl, ha, atI_nat h, q⟩
theorem v_lenSq (ha : SqL K H a xs) (q : Q (.int (xs.length : Int)) H) : cLen K [.ref a] H Q := ⟨.ref a, xs.length, rfl, .inl ⟨xs, ha, rfl⟩, q⟩
end
def dueL (l : List Nat) : List Nat := (List.range 108).filter fun j => decide (GN.joinL [32] (row j) = l)
theorem due_iff {l : List Nat} {j : Nat} (hj : j < 108) : GN.joinL [32] (row j) = l ↔ row j = parts 32 l := by
  constructor
  · rintro rfl
    exact (ok_parts (row_ok j hj)).symm
  · intro h
    rw [h, join_parts]
theorem one_of : ∀ k, k < 108 → ((List.range 108).filter fun j => decide (j = k)) = [k] := by decide +kernel
theorem due_ok {l : List Nat} (h : ok4 (parts 32 l)) : ∃ j, j < 108 ∧ dueL l = [j] ∧ row j = parts 32 l := by
  obtain ⟨k, hk, e⟩ := ok_row h
  refine ⟨k, hk, ?_, e.symm⟩
  rw [← one_of k hk]
  unfold dueL
  refine List.filter_congr fun j hj => ?_
  have hj' : j < 108 := List.mem_range.mp hj
  refine dec_congr ?_
  rw [due_iff hj', e]
  exact ⟨fun z => row_inj hj' hk z, fun z => by rw [z]⟩
theorem due_no {l : List Nat} (h : ¬ ok4 (parts 32 l)) : dueL l = [] := by
  unfold dueL
  rw [List.filter_eq_nil_iff]
  intro j hj
  have hj' : j < 108 := List.mem_range.mp hj
  simp only [decide_eq_true_eq]
  intro z
  exact h (by rw [← (due_iff hj').mp z]; exact row_ok j hj')
/-- the words that are wrong -/
def wrs (ws : List (List Nat)) (i : Nat) : List (List Nat) := ((List.range i).filter fun j => decide (ws.getD j [] ∉ mn j)).map fun j => ws.getD j []
theorem wrs_ok {ws : List (List Nat)} (h : ok4 ws) : wrs ws 4 = [] := by
  unfold wrs
  rw [List.map_eq_nil_iff, List.filter_eq_nil_iff]
  intro j hj
  have := h.2 j (List.mem_range.mp hj)
  simp only [decide_eq_true_eq, Decidable.not_not]
  exact this
theorem wrs_no {ws : List (List Nat)} {i : Nat} (h : fw ws i) : ∃ r, wrs ws 4 = ws.getD i [] :: r := by
  obtain ⟨hi, hn, hj⟩ := h
  have e : List.range 4 = [0, 1, 2, 3] := rfl
  unfold wrs
  rw [e]
  match i, hi with
  | 0, _ => exact ⟨_, by rw [List.filter_cons_of_pos (by simpa using hn)]; rfl⟩
  | 1, _ =>
    have h0 := hj 0 (by decide)
    exact ⟨_, by rw [List.filter_cons_of_neg (by simpa using h0), List.filter_cons_of_pos (by simpa using hn)]; rfl⟩
  | 2, _ =>
    have h0 := hj 0 (by decide)
    have h1 := hj 1 (by decide)
    exact ⟨_, by rw [List.filter_cons_of_neg (by simpa using h0), List.filter_cons_of_neg (by simpa using h1), List.filter_cons_of_pos (by simpa using hn)]; rfl⟩
  | 3, _ =>
    have h0 := hj 0 (by decide)
    have h1 := hj 1 (by decide)
    have h2 := hj 2 (by decide)
    exact ⟨_, by rw [List.filter_cons_of_neg (by simpa using h0), List.filter_cons_of_neg (by simpa using h1), List.filter_cons_of_neg (by simpa using h2), List.filter_cons_of_pos (by simpa using hn)]; rfl⟩

def sp_wrong_word (c : Ad) : Sp := fun vs H Q _ => vs.length = 1 ∧ ∃ (a : Addr) (ws : List (List Nat)), vs = [.ref a] ∧ WAt H a ws ∧ ws.length = 4 ∧ (∀ (i : Nat) H', fw ws i → Ext H H' → Q (.int (i : Int)) H') ∧ (ok4 ws → ∀ H', Ext H H' → Q .non H')
def sp_Policy___init__ (c : Ad) : Sp := fun vs H Q E => vs.length = 5 ∧ ∃ (x dx : Addr) (w0 w1 w2 w3 : List Nat), vs = [.ref x, .str (S w0), .str (S w1), .str (S w2), .str (S w3)] ∧ H x = some (.ins c.Policy dx []) ∧ (ok4 [w0, w1, w2, w3] → ∀ u H', H u = none → But x H H' → H' x = some (.ins c.Policy dx (pf [w0, w1, w2, w3] u)) → H' u = some (.tup (tv [w0, w1, w2, w3])) → Q .non H') ∧ (∀ i, fw [w0, w1, w2, w3] i → ∀ d H', Ext H H' → H' d = some (.xd (subj (.str (S (([w0, w1, w2, w3] : List (List Nat)).getD i []))))) → E (.ref c.BadPolicy) (some d) H')
def sp_Policy_read (c : Ad) : Sp := fun vs H Q E => vs.length = 2 ∧ ∃ (l : List Nat), vs = [.ref c.Policy, .str (S l)] ∧ Tx 1000 l ∧ (ok4 (parts 32 l) → ∀ b H', Ext H H' → Pol c H' b (parts 32 l) → Q (.ref b) H') ∧ (¬ ok4 (parts 32 l) → ∀ d H', Ext H H' → H' d = some (.xd (subj (.str (S l)))) → E (.ref c.BadPolicy) (some d) H')
def sp_Policy_text (c : Ad) : Sp := fun vs H Q E => vs.length = 1 ∧ ∃ (b : Addr) (ws : List (List Nat)), vs = [.ref b] ∧ Pol c H b ws ∧ Q (.str (S (GN.joinL [32] ws))) H
def sp_Policy___xor__ (c : Ad) : Sp := fun vs H Q E => vs.length = 2 ∧ ∃ (b d : Addr) (ws us : List (List Nat)), vs = [.ref b, .ref d] ∧ Pol c H b ws ∧ Pol c H d us ∧ ∀ p H', H p = none → Ext H H' → H' p = some (.lst ((dif ws us).map V.int)) → Q (.ref p) H'
def sp_Policy___eq__ (c : Ad) : Sp := fun vs H Q E => vs.length = 2 ∧ ∃ (b d : Addr) (ws us : List (List Nat)), vs = [.ref b, .ref d] ∧ Pol c H b ws ∧ Pol c H d us ∧ Q (.bl (decide (ws = us))) H
def sp_Policy___iter__ (c : Ad) : Sp := fun vs H Q E => vs.length = 1 ∧ ∃ (b dx u : Addr) (ws : List (List Nat)), vs = [.ref b] ∧ H b = some (.ins c.Policy dx (pf ws u)) ∧ H u = some (.tup (tv ws)) ∧ ∀ it H', H it = none → Ext H H' → H' it = some (TIt u it 0) → Q (.ref it) H'
def sp_all_policies (c : Ad) : SpG := fun vs H Q _ => vs.length = 0 ∧ vs = [] ∧ ∀ out H', Ext H H' → PolsN c H' out 108 → Q out H'
def sp__law_mixed (c : Ad) : Sp := fun vs H Q _ => vs.length = 2 ∧ ∃ (n m : Int), vs = [.int n, .int m] ∧ ∀ r, 0 ≤ r → r < 5040 → Q (.int r) H
def sp__law_pool (c : Ad) : Sp := fun vs H Q _ => vs.length = 2 ∧ ∃ (a t : Addr) (ns ts : List Int), vs = [.ref a, .ref t] ∧ SqL c.K H a (ns.map V.int) ∧ ns.length ≤ 63 ∧ H t = some (.lst (ts.map V.int)) ∧ ts.length = 16 ∧ ∀ p H', H p = none → Ext H H' → Nums H' p → Q (.ref p) H'
def sp__law_sign (c : Ad) : Sp := fun vs H Q _ => vs.length = 1 ∧ ∃ (n : Int), vs = [.int n] ∧ ∀ d, d < 128 → Q (.str (S [d])) H
def sp__law_menus (c : Ad) : Sp := fun vs H Q _ => vs.length = 0 ∧ vs = [] ∧ ∀ p H', Ext H H' → MnAt H' p → Q (.ref p) H'
def sp__law_all_words (c : Ad) : Sp := fun vs H Q _ => vs.length = 1 ∧ ∃ (m : Addr), vs = [.ref m] ∧ MnAt H m ∧ ∀ p H', H p = none → Ext H H' → RowsAt H' p → Q (.ref p) H'
def sp__law_word (c : Ad) : Sp := fun vs H Q _ => vs.length = 4 ∧ ∃ (p : Addr) (i n m : Nat), vs = [.ref p, .int (i : Int), .int (n : Int), .int (m : Int)] ∧ MnAt H p ∧ i < 4 ∧ ∀ w H', Tx 60 w → Ext H H' → Q (.str (S w)) H'
def sp__law_four (c : Ad) : Sp := fun vs H Q _ => vs.length = 2 ∧ ∃ (p q : Addr), vs = [.ref p, .ref q] ∧ MnAt H p ∧ Nums H q ∧ ∀ r ws H', H r = none → Ext H H' → H' r = some (.lst (tv ws)) → ws.length = 4 → (∀ w ∈ ws, Tx 60 w) → Q (.ref r) H'
def sp__law_text (c : Ad) : Sp := fun vs H Q _ => vs.length = 3 ∧ ∃ (l : List Nat) (ws : List (List Nat)) (q p : Addr), vs = [.str (S l), .ref q, .ref p] ∧ Tx 60 l ∧ H q = some (.lst (tv ws)) ∧ ws.length = 4 ∧ (∀ w ∈ ws, Tx 60 w) ∧ Nums H p ∧ (parts 32 l).length = 4 ∧ ∀ t H', Tx 1000 t → Ext H H' → Q (.str (S t)) H'
def sp__law_is_policy (c : Ad) : Sp := fun vs H Q E => vs.length = 2 ∧ ∃ (b a : Addr) (ws : List (List Nat)), vs = [.ref b, .ref a] ∧ Pol c H b ws ∧ WAt H a ws ∧ ∀ H', Ext H H' → Q (.bl true) H'
def sp__law_is_indexes (c : Ad) : Sp := fun vs H Q E => vs.length = 2 ∧ ∃ (a b : Addr) (ns : List Int), vs = [.ref a, .ref b] ∧ H a = some (.lst (ns.map V.int)) ∧ H b = some (.lst (ns.map V.int)) ∧ ns.length ≤ 1000 ∧ Q (.bl true) H
def sp__law_class_values (c : Ad) : Sp := fun vs H Q E => vs.length = 1 ∧ ∃ (m : Addr), vs = [.ref m] ∧ MnAt H m ∧ ∀ H', Ext H H' → Q (.bl true) H'
def sp__law_made (c : Ad) : Sp := fun vs H Q E => vs.length = 2 ∧ ∃ (m a : Addr) (ws : List (List Nat)), vs = [.ref m, .ref a] ∧ MnAt H m ∧ H a = some (.lst (tv ws)) ∧ ws.length = 4 ∧ (∀ w ∈ ws, Tx 60 w) ∧ ∀ H', Ext H H' → Q (.bl true) H'
def sp__law_read (c : Ad) : Sp := fun vs H Q E => vs.length = 2 ∧ ∃ (rw : Addr) (l : List Nat), vs = [.ref rw, .str (S l)] ∧ RowsAt H rw ∧ Tx 1000 l ∧ ∀ H', Ext H H' → Q (.bl true) H'
def sp__law_differences (c : Ad) : Sp := fun vs H Q E => vs.length = 2 ∧ ∃ (rw : Addr) (t : Nat), vs = [.ref rw, .int (t : Int)] ∧ RowsAt H rw ∧ t < 108 ∧ ∀ H', Ext H H' → Q (.bl true) H'
def sp_law (c : Ad) : Sp := spLaw c.K

section
variable {c : Ad} {H : Hp} {Q : VK} {E : XK} {p b : Addr} {w0 w1 w2 w3 : List Nat}
theorem mk_pol (kQ : ok4 [w0, w1, w2, w3] → ∀ b H', H b = none → Ext H H' → Pol c H' b [w0, w1, w2, w3] → Q (.ref b) H') (kE : ∀ i, fw [w0, w1, w2, w3] i → ∀ d H', Ext H H' → H' d = some (.xd (subj (.str (S (([w0, w1, w2, w3] : List (List Nat)).getD i []))))) → E (.ref c.BadPolicy) (some d) H') : rMk c.Policy (sp_Policy___init__ c) E [.str (S w0), .str (S w1), .str (S w2), .str (S w3)] H Q :=
  v_mk fun x dx H1 hx e1 h1' => ⟨rfl, x, dx, w0, w1, w2, w3, rfl, h1', fun hok u H' nu b h2 h3 => ⟨rfl, kQ hok x H' hx (b.ext e1 hx) ⟨dx, u, h2, h3, hok⟩⟩, fun i hf d H' e hd => kE i hf d H' (e1.trans e) hd⟩
end

end K34
namespace K34
open PySem L2 GG PyProof.Rows
open GM
open GN
open PySem.NumText
local macro_rules | `(tactic| got_up) => `(tactic| first
  | assumption
  | (refine Ext.look (by assumption) ?_; got_up)
  | (refine But.look (by assumption) (by first | assumption | (exact Ne.symm (by assumption))) ?_; got_up)
  | (refine But.lookK (by assumption) (by got_up) (by got_up) (by intro hh; cases hh)))
local macro_rules | `(tactic| mem_news) => `(tactic| first
  | ((with_reducible refine' v_ixL ?h1 ?h2 ?h3 ?_); (case h1 => with_reducible got_up); (case h2 => decide); (case h3 => with_unfolding_all rfl))
  | ((with_reducible refine' v_ixT ?h1 ?h2 ?h3 ?_); (case h1 => with_reducible got_up); (case h2 => decide); (case h3 => with_unfolding_all rfl))
  | ((with_reducible refine' r_fld ?h1 ?h2 ?h3 ?h4 ?_); (case h1 => with_reducible got_up); (case h2 => assumption); (case h3 => assumption); (case h4 => with_unfolding_all rfl))
  | ((with_reducible refine' v_mod ?h1 ?_); (case h1 => first | assumption | decide | omega))
  | ((with_reducible refine' v_mul ?h1 ?_); (case h1 => first | exact CM.left (by omega) (by omega) | exact CM.right (by omega) (by omega)))
  | ((with_reducible refine' r_tup ?h1 ?_); (case h1 => simp); intro _ _ _ _ _)
  | ((with_reducible refine' r_lst ?h1 ?_); (case h1 => simp); intro _ _ _ _ _)
  | ((with_reducible refine' v_lenL ?h1 ?_); (case h1 => with_reducible got_up))
  | ((with_reducible refine' v_lenT ?h1 ?_); (case h1 => with_reducible got_up))
  | ((with_reducible refine' g_tup ?h1 ?h2 ?_); (case h1 => with_reducible got_up); (case h2 => with_unfolding_all rfl))
  | ((with_reducible refine' r_rng1 ?h1 ?h2 ?_); (case h1 => decide); (case h2 => decide))
  | ((with_reducible refine' r_seqL ?h1 ?_); (case h1 => with_reducible got_up))
  | ((with_reducible refine' r_seqT ?h1 ?_); (case h1 => with_reducible got_up))
  | ((with_reducible refine' v_own ?h1 ?h2 ?_); (case h1 => with_reducible got_up); (case h2 => with_reducible got_up))
  | ((with_reducible refine' v_ownI ?h1 ?_); (case h1 => with_reducible got_up))
  | ((with_reducible refine' v_ownIn ?h1 ?_); (case h1 => with_reducible got_up))
  | ((with_reducible refine' v_own1 ?h1 ?_); (case h1 => with_reducible got_up))
  | ((with_reducible refine' v_ownC ?h1 ?_); (case h1 => with_reducible got_up))
  | ((with_reducible refine' v_ownB ?h1 ?_); (case h1 => with_reducible got_up))
  | ((with_reducible refine' v_ownLen ?h1 ?_); (case h1 => with_reducible got_up))
  | ((with_reducible refine' v_mt ?h1 ?h2 ?_); (case h1 => with_reducible got_up); (case h2 => with_unfolding_all rfl))
  | ((with_reducible refine' v_isO ?h1 ?h2 ?_); (case h1 => with_reducible got_up); (case h2 => assumption))
  | ((with_reducible refine' And.intro (ty_list ?h1) ?_); (case h1 => with_reducible got_up))
  | ((with_reducible refine' v_eqT2 ?h1 ?h2 ?_); (case h1 => with_reducible got_up); (case h2 => with_reducible got_up))
  | ((with_reducible refine' run_tryAs ?_); intro _ _)
  | ((with_reducible refine' v_listT ?h1 ?_); (case h1 => with_reducible got_up); intro _ _ _ _ _)
  | ((with_reducible refine' v_listL ?h1 ?_); (case h1 => with_reducible got_up); intro _ _ _ _ _)
  | ((with_reducible refine' v_tupL ?h1 ?_); (case h1 => with_reducible got_up); intro _ _ _ _ _)
  | ((with_reducible refine' run_tryOnly ?_); intro _ _))
local macro_rules | `(tactic| end_int) => do
  let r := Lean.mkIdent `rest_
  let h := Lean.mkIdent `hrest_
  `(tactic| first | (with_reducible refine StP.h ?_) | ((with_reducible refine run_seqG ?_); intro $r:ident $h:ident) | ((with_reducible refine run_rest $r ?_); subst $h:ident) | mem_news)
local macro_rules | `(tactic| reads_via) => `(tactic| repeat' end_int)
local macro_rules | `(tactic| o_reads) => do
  let r := Lean.mkIdent `rest_
  let h := Lean.mkIdent `hrest_
  `(tactic| repeat ((fail_if_success (with_reducible refine is_if ?_)); first | (with_reducible refine St1.h ?_) | ((with_reducible refine run_seqG ?_); intro $r:ident $h:ident) | ((with_reducible refine run_rest $r ?_); subst $h:ident) | mem_news))
local macro_rules | `(tactic| end_str) => `(tactic| repeat' (first | end_int | (with_reducible refine br_yes (by first | assumption | decide | omega | (simp; done) | fail) ?_) | (with_reducible refine br_no (by first | assumption | decide | omega | (simp; done) | fail) ?_) | fail))

theorem menK {K : PySem.W.Frag} {mg : Str → Option Value} {c : Ad} (T : Txt K mg c) {i : Nat} (hi : i < 4) : ∃ t, ([.ref c.t_ORDERS, .ref c.t_PLACES, .ref c.t_EVICTS, .ref c.t_FILLS] : List V)[i]? = some (.ref t) ∧ ∀ H, SqT K H t (tv (mn i)) := by
  match i, hi with
  | 0, _ => exact ⟨_, rfl, fun H => T.kt_ORDERS.sq⟩
  | 1, _ => exact ⟨_, rfl, fun H => T.kt_PLACES.sq⟩
  | 2, _ => exact ⟨_, rfl, fun H => T.kt_EVICTS.sq⟩
  | 3, _ => exact ⟨_, rfl, fun H => T.kt_FILLS.sq⟩
set_option maxHeartbeats 1000000 in
theorem ok_wrong_word {P : Program} {w : World} {K : PySem.W.Frag} {mg : Str → Option Value} {base : Heap} {c : Ad} {f : Addr} {fd : FuncData} (F : Fun K "wrong_word" "wrong_word" s_wrong_word f fd) (T : Txt K mg c)  :
    FnOk P w K mg base (L2N.CX P w) 1 f fd ["words"] (sp_wrong_word c) := by
  refine GG.Fun.okN F sc_wrong_word (fun vs H Q E h => h.1) (fun cdv ar ou sh H vs Q E hr h => ?_)
  obtain ⟨_, a, ws, rfl, hw, hl, kI, kN⟩ := h
  have tk := L2N.takes_of (X := cxOf (L2N.CX P w) P w K mg base ["words", "menus", "at", "word"] "wrong_word" (defScope s_wrong_word) f cdv ar ou sh H E) rfl rfl rfl rfl
  refine ⟨_, (pss_cons (ps_asg (pe_tup (pa_cons (pe_ccon rfl T.g_Policy T.cc_Policy_ORDERS) (pa_cons (pe_ccon rfl T.g_Policy T.cc_Policy_PLACES) (pa_cons (pe_ccon rfl T.g_Policy T.cc_Policy_EVICTS) (pa_cons (pe_ccon rfl T.g_Policy T.cc_Policy_FILLS) pa_nil))))) (pg_name (i := 1) sc_wrong_word.nd rfl (Or.inl rfl)))
      (pss_cons (ps_for (passes_of rfl) rfl (pi_enumU K (by rfl) T.b_enumerate (pa_cons (pv 0) pa_nil)) (pg_tupK K (n := 2) (pg_tup (n := 2) (by rfl) (pgs_cons (pg_name (i := 2) sc_wrong_word.nd rfl (Or.inl rfl)) (pgs_cons (pg_name (i := 3) sc_wrong_word.nd rfl (Or.inl rfl)) pgs_nil))))
      (pss_one (ps_if (pt_cmpR (u_notinX K) (pv 3) (pe_ix (u_ix K) (pv 1) (pv 2) (fun _ _ => rfl)) rfl)
      (pss_one (ps_ret (pv 2)))
      pss_nil)))
      (pss_one (ps_ret pe_non)))), ?_⟩
  try dsimp only [L2H.cxH, cxOf, Cx.suite, Cx.tr, List.map_cons, List.map_nil]
  refine run_start (σ := [some (.ref a), none, none, none]) rfl ?_
  clear tk
  reads_via
  rename_i q1 H1 n1 e1 h1
  have hw1 := hw.ext e1
  rcases hw1 with hw1 | hw1
  · refine v_enumUT hw1 ?_
    refine f_it (walk_enumT (xs := tv ws)) (fun i σ H' => ∃ v2 v3, σ = [some (.ref a), some (.ref q1), v2, v3] ∧ Ext H1 H' ∧ ∀ j, j < i → ws.getD j [] ∈ mn j) ⟨none, none, rfl, Ext.rfl, fun j hj => by omega⟩ ?_ ?_ ?_
    · rintro i σ H' hi ⟨v2, v3, rfl, e2, _⟩
      exact SqT.of (e2.look hw1)
    · rintro i x σ H3 H4 hi ⟨v2, v3, rfl, e3, hj⟩ ⟨Tp, y, rfl, nT, hy, rfl⟩
      rw [tv_len, hl] at hi
      rw [tv_at (by omega)] at hy
      cases hy
      have eT : Ext H3 (upd H3 Tp (.tup [.int (i : Nat), .str (S (ws.getD i []))])) := Ext.new nT
      have hT : upd H3 Tp (.tup [.int (i : Nat), .str (S (ws.getD i []))]) Tp = some (.tup [.int (i : Nat), .str (S (ws.getD i []))]) := upd_same
      generalize upd H3 Tp (.tup [.int (i : Nat), .str (S (ws.getD i []))]) = H4 at *
      reads_via
      obtain ⟨t, ht, hs⟩ := menK T hi
      refine v_ixTn (eT.look (e3.look h1)) ht ?_
      reads_via
      refine v_notinTv (hs _) ?_
      reads_via
      refine br_d (fun c1 => ?_) (fun c1 => ?_)
      · reads_via
        refine ⟨_, _, rfl, e3.trans eT, fun j h => ?_⟩
        by_cases z : j = i
        · subst z; exact c1
        · exact hj j (by omega)
      · reads_via
        exact kI i _ ⟨hi, c1, hj⟩ ((e1.trans e3).trans eT)
    · rintro σ H3 ⟨v2, v3, rfl, e3, hj⟩
      reads_via
      exact kN ⟨hl, fun j h => hj j (by rw [tv_len]; omega)⟩ _ (e1.trans e3)
  · refine v_enumUL hw1 ?_
    refine f_it (walk_enumL (xs := tv ws)) (fun i σ H' => ∃ v2 v3, σ = [some (.ref a), some (.ref q1), v2, v3] ∧ Ext H1 H' ∧ ∀ j, j < i → ws.getD j [] ∈ mn j) ⟨none, none, rfl, Ext.rfl, fun j hj => by omega⟩ ?_ ?_ ?_
    · rintro i σ H' hi ⟨v2, v3, rfl, e2, _⟩
      exact SqL.of (e2.look hw1)
    · rintro i x σ H3 H4 hi ⟨v2, v3, rfl, e3, hj⟩ ⟨Tp, y, rfl, nT, hy, rfl⟩
      rw [tv_len, hl] at hi
      rw [tv_at (by omega)] at hy
      cases hy
      have eT : Ext H3 (upd H3 Tp (.tup [.int (i : Nat), .str (S (ws.getD i []))])) := Ext.new nT
      have hT : upd H3 Tp (.tup [.int (i : Nat), .str (S (ws.getD i []))]) Tp = some (.tup [.int (i : Nat), .str (S (ws.getD i []))]) := upd_same
      generalize upd H3 Tp (.tup [.int (i : Nat), .str (S (ws.getD i []))]) = H4 at *
      reads_via
      obtain ⟨t, ht, hs⟩ := menK T hi
      refine v_ixTn (eT.look (e3.look h1)) ht ?_
      reads_via
      refine v_notinTv (hs _) ?_
      reads_via
      refine br_d (fun c1 => ?_) (fun c1 => ?_)
      · reads_via
        refine ⟨_, _, rfl, e3.trans eT, fun j h => ?_⟩
        by_cases z : j = i
        · subst z; exact c1
        · exact hj j (by omega)
      · reads_via
        exact kI i _ ⟨hi, c1, hj⟩ ((e1.trans e3).trans eT)
    · rintro σ H3 ⟨v2, v3, rfl, e3, hj⟩
      reads_via
      exact kN ⟨hl, fun j h => hj j (by rw [tv_len]; omega)⟩ _ (e1.trans e3)
set_option maxHeartbeats 1000000 in
theorem ok_Policy_text {P : Program} {w : World} {K : PySem.W.Frag} {mg : Str → Option Value} {base : Heap} {c : Ad} {f : Addr} {fd : FuncData} (F : Fun K "text" "Policy.text" s_Policy_text f fd) (T : Txt K mg c)  :
    FnOk P w K mg base (L2N.CX P w) 1 f fd ["self"] (sp_Policy_text c) := by
  refine GG.Fun.okN F sc_Policy_text (fun vs H Q E h => h.1) (fun cdv ar ou sh H vs Q E hr h => ?_)
  obtain ⟨_, b, ws, rfl, ⟨dx, u, hb, hu, hok⟩, k⟩ := h
  have hO := T.o_Policy
  have hcl := T.o_Policy.cl
  have n_order := T.na_Policy_order
  have n_place := T.na_Policy_place
  have n_evict := T.na_Policy_evict
  have n_fill := T.na_Policy_fill
  have n_all_words := T.na_Policy_all_words
  have tk := L2N.takes_of (X := cxOf (L2N.CX P w) P w K mg base ["self"] "Policy.text" (defScope s_Policy_text) f cdv ar ou sh H E) rfl rfl rfl rfl
  refine ⟨_, (pss_one (ps_ret (pe_bmK K (pe_bm PySem.F.plainAttrs_str PySem.F.slot_str_join PySem.F.type_str_join (m_join K) pe_str (pa_cons (pe_fldK K (pe_fld (pv 0) rfl)) pa_nil))))), ?_⟩
  try dsimp only [L2H.cxH, cxOf, Cx.suite, Cx.tr, List.map_cons, List.map_nil]
  refine run_start (σ := [some (.ref b)]) rfl ?_
  clear tk
  rw [s_32]
  reads_via
  exact v_joinTv (.inl hu) (ok_sum hok) k
set_option maxHeartbeats 1000000 in
theorem ok_Policy___xor__ {P : Program} {w : World} {K : PySem.W.Frag} {mg : Str → Option Value} {base : Heap} {c : Ad} {f : Addr} {fd : FuncData} (F : Fun K "__xor__" "Policy.__xor__" s_Policy___xor__ f fd) (T : Txt K mg c)  :
    FnOk P w K mg base (L2N.CX P w) 1 f fd ["self", "other"] (sp_Policy___xor__ c) := by
  refine GG.Fun.okN F sc_Policy___xor__ (fun vs H Q E h => h.1) (fun cdv ar ou sh H vs Q E hr h => ?_)
  obtain ⟨_, b, d, ws, us, rfl, ⟨dx, u, hb, hu, hok⟩, ⟨dy, v, hd, hv, hok2⟩, k⟩ := h
  have hO := T.o_Policy
  have hcl := T.o_Policy.cl
  have n_order := T.na_Policy_order
  have n_place := T.na_Policy_place
  have n_evict := T.na_Policy_evict
  have n_fill := T.na_Policy_fill
  have n_all_words := T.na_Policy_all_words
  have tk := L2N.takes_of (X := cxOf (L2N.CX P w) P w K mg base ["self", "other", "at"] "Policy.__xor__" (defScope s_Policy___xor__) f cdv ar ou sh H E) rfl rfl rfl rfl
  refine ⟨_, (pss_one (ps_ret (pe_lcV [2] (pe_lc (own := [("at", 2)]) (by rfl) sc_Policy___xor__.nd (pi_range1 (by rfl) T.b_range (pa_cons pe_int pa_nil)) (blkOk_by (own := [("at", 2)]) (N := ["self", "other", "at"]) (sc := defScope s_Policy___xor__) (by decide +kernel)) (fun _ _ _ _ _ => (pg_name (i := 2) sc_Policy___xor__.nd rfl (Or.inl rfl))) (fun _ _ _ _ _ => (pts_one (pt_cmpR (u_ne K hr.units) (pe_ix (u_ix K) (pe_fldK K (pe_fld (pv 0) rfl)) (pv 2) (fun _ _ => rfl)) (pe_ix (u_ix K) (pe_fldK K (pe_fld (pv 1) rfl)) (pv 2) (fun _ _ => rfl)) (nomark _)))) (fun _ _ _ _ _ => (pv 2)))))), ?_⟩
  try dsimp only [L2H.cxH, cxOf, Cx.suite, Cx.tr, List.map_cons, List.map_nil]
  refine run_start (σ := [some (.ref b), some (.ref d), none]) rfl ?_
  clear tk
  have hl := hok.1
  have hl2 := hok2.1
  reads_via
  refine lcW walk_range (fun i acc H1 => Ext H H1 ∧ acc = (((List.range i).filter fun j => decide (ws.getD j [] ≠ us.getD j [])).map fun (j : Nat) => (j : Int)).map V.int) (fun H1 e => ⟨e, rfl⟩) (fun _ _ _ _ _ => trivial) ?_ ?_
  · rintro i x D acc H1 H1' hD hi ⟨e1, hacc⟩ ⟨rfl, rfl⟩ h1 hle
    have hi4 : i < 4 := hi
    dsimp only
    simp only [Int.zero_add]
    reads_via
    refine v_ixTn (e1.look hu) (tv_at (by omega)) ?_
    reads_via
    refine v_ixTn (e1.look hv) (tv_at (by omega)) ?_
    reads_via
    refine br_d (fun c1 => ?_) (fun c1 => ?_)
    · refine ⟨acc, h1, by omega, e1, ?_⟩
      rw [List.range_succ, List.filter_append, hacc]
      simp [c1, -List.getD_eq_getElem?_getD]
    · reads_via
      refine v_accK h1 (by omega) (by omega) fun H2 b2 => ⟨b2.ext e1 hD, ?_⟩
      rw [List.range_succ, List.filter_append, hacc]
      simp [c1, -List.getD_eq_getElem?_getD]
  · rintro D acc H1 hD h1 hle ⟨e1, rfl⟩
    exact k D H1 hD e1 h1
set_option maxHeartbeats 1000000 in
theorem ok_Policy___eq__ {P : Program} {w : World} {K : PySem.W.Frag} {mg : Str → Option Value} {base : Heap} {c : Ad} {f : Addr} {fd : FuncData} (F : Fun K "__eq__" "Policy.__eq__" s_Policy___eq__ f fd) (T : Txt K mg c)  :
    FnOk P w K mg base (L2N.CX P w) 1 f fd ["self", "other"] (sp_Policy___eq__ c) := by
  refine GG.Fun.okN F sc_Policy___eq__ (fun vs H Q E h => h.1) (fun cdv ar ou sh H vs Q E hr h => ?_)
  obtain ⟨_, b, d, ws, us, rfl, ⟨dx, u, hb, hu, hok⟩, ⟨dy, v, hd, hv, hok2⟩, k⟩ := h
  have hO := T.o_Policy
  have hcl := T.o_Policy.cl
  have n_order := T.na_Policy_order
  have n_place := T.na_Policy_place
  have n_evict := T.na_Policy_evict
  have n_fill := T.na_Policy_fill
  have n_all_words := T.na_Policy_all_words
  have tk := L2N.takes_of (X := cxOf (L2N.CX P w) P w K mg base ["self", "other"] "Policy.__eq__" (defScope s_Policy___eq__) f cdv ar ou sh H E) rfl rfl rfl rfl
  refine ⟨_, (pss_one (ps_ret (pe_and (pe_callB (c_isi K) (by rfl) T.b_isinstance (by decide +kernel) (pa_cons (pv 1) (pa_cons (pe_glob (v := .ref c.Policy) rfl T.g_Policy rfl) pa_nil))) (pe_one (pe_cmpR (u_eq K hr.units) (pe_fldK K (pe_fld (pv 0) rfl)) (pe_fldK K (pe_fld (pv 1) rfl)) (nomark _)))))), ?_⟩
  try dsimp only [L2H.cxH, cxOf, Cx.suite, Cx.tr, List.map_cons, List.map_nil]
  refine run_start (σ := [some (.ref b), some (.ref d)]) rfl ?_
  clear tk
  reads_via
  exact v_eqTv hu hv (fun w hw => (ok_tx hok w hw).1.1) (fun w hw => (ok_tx hok2 w hw).1.1) k
set_option maxHeartbeats 1000000 in
theorem ok_Policy___iter__ {P : Program} {w : World} {K : PySem.W.Frag} {mg : Str → Option Value} {base : Heap} {c : Ad} {f : Addr} {fd : FuncData} (F : Fun K "__iter__" "Policy.__iter__" s_Policy___iter__ f fd) (T : Txt K mg c)  :
    FnOk P w K mg base (L2N.CX P w) 1 f fd ["self"] (sp_Policy___iter__ c) := by
  refine GG.Fun.okN F sc_Policy___iter__ (fun vs H Q E h => h.1) (fun cdv ar ou sh H vs Q E hr h => ?_)
  obtain ⟨_, b, dx, u, ws, rfl, hb, hu, k⟩ := h
  have hO := T.o_Policy
  have hcl := T.o_Policy.cl
  have n_order := T.na_Policy_order
  have n_place := T.na_Policy_place
  have n_evict := T.na_Policy_evict
  have n_fill := T.na_Policy_fill
  have n_all_words := T.na_Policy_all_words
  have tk := L2N.takes_of (X := cxOf (L2N.CX P w) P w K mg base ["self"] "Policy.__iter__" (defScope s_Policy___iter__) f cdv ar ou sh H E) rfl rfl rfl rfl
  refine ⟨_, (pss_one (ps_ret (pe_callB (c_iter K) (by rfl) T.b_iter (by decide +kernel) (pa_cons (pe_fldK K (pe_fld (pv 0) rfl)) pa_nil)))), ?_⟩
  try dsimp only [L2H.cxH, cxOf, Cx.suite, Cx.tr, List.map_cons, List.map_nil]
  refine run_start (σ := [some (.ref b)]) rfl ?_
  clear tk
  reads_via
  refine v_iterT hu fun it H1 nit e1 hit => ?_
  exact k it H1 nit e1 hit
set_option maxHeartbeats 1000000 in
theorem ok__law_mixed {P : Program} {w : World} {K : PySem.W.Frag} {mg : Str → Option Value} {base : Heap} {c : Ad} {f : Addr} {fd : FuncData} (F : Fun K "_law_mixed" "_law_mixed" s__law_mixed f fd) (T : Txt K mg c)  :
    FnOk P w K mg base (L2N.CX P w) 1 f fd ["_law_seed", "_law_k"] (sp__law_mixed c) := by
  refine GG.Fun.okN F sc__law_mixed (fun vs H Q E h => h.1) (fun cdv ar ou sh H vs Q E hr h => ?_)
  obtain ⟨_, n, m, rfl, k⟩ := h
  have tk := L2N.takes_of (X := cxOf (L2N.CX P w) P w K mg base ["_law_seed", "_law_k", "_law_first", "_law_second", "_law_third"] "_law_mixed" (defScope s__law_mixed) f cdv ar ou sh H E) rfl rfl rfl rfl
  refine ⟨_, (pss_cons (ps_asg (pe_op u_mod (pe_callTy c_int2 (by rfl) T.b_int (by decide +kernel) (pa_cons (pe_op (u_add K) (pe_op (u_add K) (pe_op u_mul (pv 0) pe_int) (pe_op u_mul (pv 1) pe_int)) pe_int) pa_nil)) pe_int) (pg_name (i := 2) sc__law_mixed.nd rfl (Or.inl rfl)))
      (pss_cons (ps_asg (pe_op u_mod (pe_callTy c_int2 (by rfl) T.b_int (by decide +kernel) (pa_cons (pe_op (u_add K) (pe_op (u_add K) (pe_op u_mul (pv 0) pe_int) (pe_op u_mul (pv 2) (pv 2))) (pv 1)) pa_nil)) pe_int) (pg_name (i := 3) sc__law_mixed.nd rfl (Or.inl rfl)))
      (pss_cons (ps_asg (pe_op u_mod (pe_callTy c_int2 (by rfl) T.b_int (by decide +kernel) (pa_cons (pe_op (u_add K) (pe_op (u_add K) (pe_op u_mul (pv 3) (pv 3)) (pe_op u_mul (pv 2) pe_int)) (pv 0)) pa_nil)) pe_int) (pg_name (i := 4) sc__law_mixed.nd rfl (Or.inl rfl)))
      (pss_one (ps_ret (pe_op u_mod (pe_callTy c_int2 (by rfl) T.b_int (by decide +kernel) (pa_cons (pe_op (u_add K) (pe_op u_mul (pv 3) pe_int) (pv 4)) pa_nil)) pe_int)))))), ?_⟩
  try dsimp only [L2H.cxH, cxOf, Cx.suite, Cx.tr, List.map_cons, List.map_nil]
  refine run_start (σ := [some (.int n), some (.int m), none, none, none]) rfl ?_
  clear tk
  reads_via
  exact k _ (Int.emod_nonneg _ (by decide)) (Int.emod_lt_of_pos _ (by decide))
set_option maxHeartbeats 1000000 in
theorem ok__law_sign {P : Program} {w : World} {K : PySem.W.Frag} {mg : Str → Option Value} {base : Heap} {c : Ad} {f : Addr} {fd : FuncData} (F : Fun K "_law_sign" "_law_sign" s__law_sign f fd) (T : Txt K mg c)  :
    FnOk P w K mg base (L2N.CX P w) 1 f fd ["_law_number"] (sp__law_sign c) := by
  refine GG.Fun.okN F sc__law_sign (fun vs H Q E h => h.1) (fun cdv ar ou sh H vs Q E hr h => ?_)
  obtain ⟨_, n, rfl, k⟩ := h
  have tk := L2N.takes_of (X := cxOf (L2N.CX P w) P w K mg base ["_law_number", "_law_signs"] "_law_sign" (defScope s__law_sign) f cdv ar ou sh H E) rfl rfl rfl rfl
  refine ⟨_, (pss_cons (ps_asg pe_str (pg_name (i := 1) sc__law_sign.nd rfl (Or.inl rfl)))
      (pss_cons (ps_asg (pe_op (u_add K) (pv 1) pe_str) (pg_name (i := 1) sc__law_sign.nd rfl (Or.inl rfl)))
      (pss_one (ps_ret (pe_ix (u_ix K) (pv 1) (pe_op u_mod (pe_callTy c_int2 (by rfl) T.b_int (by decide +kernel) (pa_cons (pv 0) pa_nil)) (pe_callB (c_len K) (by rfl) T.b_len (by decide +kernel) (pa_cons (pv 1) pa_nil))) (fun _ _ => rfl)))))), ?_⟩
  try dsimp only [L2H.cxH, cxOf, Cx.suite, Cx.tr, List.map_cons, List.map_nil]
  refine run_start (σ := [some (.int n), none]) rfl ?_
  clear tk
  rw [s_sg1, s_sg2]
  reads_via
  refine v_addSS (by decide) ?_
  reads_via
  refine v_lenSS (by rw [sg_len]; decide) ?_
  rw [sg_len]
  reads_via
  obtain ⟨j, hj⟩ : ∃ j : Nat, n % ((95 : Nat) : Int) = (j : Int) := ⟨_, (Int.toNat_of_nonneg (Int.emod_nonneg _ (by decide))).symm⟩
  rw [hj]
  have hl : j < (sg1 ++ sg2).length := by rw [sg_len]; have := Int.emod_lt_of_pos n (show (0 : Int) < ((95 : Nat) : Int) by decide); omega
  refine v_ixS (by rw [S_len, sg_len, sizeLine_eq]; decide) (List.getElem?_eq_getElem hl) ?_
  exact k _ (sg_lt _ (List.getElem_mem hl))
set_option maxHeartbeats 1000000 in
theorem ok__law_menus {P : Program} {w : World} {K : PySem.W.Frag} {mg : Str → Option Value} {base : Heap} {c : Ad} {f : Addr} {fd : FuncData} (F : Fun K "_law_menus" "_law_menus" s__law_menus f fd) (T : Txt K mg c)  :
    FnOk P w K mg base (L2N.CX P w) 1 f fd [] (sp__law_menus c) := by
  refine GG.Fun.okN F sc__law_menus (fun vs H Q E h => h.1) (fun cdv ar ou sh H vs Q E hr h => ?_)
  obtain ⟨_, rfl, k⟩ := h
  have tk := L2N.takes_of (X := cxOf (L2N.CX P w) P w K mg base ["_law_orders", "_law_places", "_law_evicts", "_law_fills"] "_law_menus" (defScope s__law_menus) f cdv ar ou sh H E) rfl rfl rfl rfl
  refine ⟨_, (pss_cons (ps_asg (pe_tup (pa_cons pe_str (pa_cons pe_str (pa_cons pe_str (pa_cons pe_str pa_nil))))) (pg_name (i := 0) sc__law_menus.nd rfl (Or.inl rfl)))
      (pss_cons (ps_asg (pe_tup (pa_cons pe_str (pa_cons pe_str (pa_cons pe_str pa_nil)))) (pg_name (i := 1) sc__law_menus.nd rfl (Or.inl rfl)))
      (pss_cons (ps_asg (pe_tup (pa_cons pe_str (pa_cons pe_str (pa_cons pe_str pa_nil)))) (pg_name (i := 2) sc__law_menus.nd rfl (Or.inl rfl)))
      (pss_cons (ps_asg (pe_tup (pa_cons pe_str (pa_cons pe_str (pa_cons pe_str pa_nil)))) (pg_name (i := 3) sc__law_menus.nd rfl (Or.inl rfl)))
      (pss_one (ps_ret (pe_tup (pa_cons (pv 0) (pa_cons (pv 1) (pa_cons (pv 2) (pa_cons (pv 3) pa_nil))))))))))), ?_⟩
  try dsimp only [L2H.cxH, cxOf, Cx.suite, Cx.tr, List.map_cons, List.map_nil]
  refine run_start (σ := [none, none, none, none]) rfl ?_
  clear tk
  rw [s_115_104_97_114_101, s_114_97_110_107, s_97_103_101, s_115_104_111_114_116, s_102_105_114_115_116, s_116_105_103_104_116, s_108_111_111_115_101, s_110_101_118_101_114, s_111_119_101_100, s_97_110_121, s_102_114_101_101, s_115_116_114_105_99_116, s_104_111_108_100]
  reads_via
  rename_i q0 H0 n0 e0 h0 q1 H1 n1 e1 h1 q2 H2 n2 e2 h2 q3 H3 n3 e3 h3 q4 H4 n4 e4 h4
  have h0' : H0 q0 = some (.tup (tv mO)) := h0
  have h1' : H1 q1 = some (.tup (tv mP)) := h1
  have h2' : H2 q2 = some (.tup (tv mE)) := h2
  have h3' : H3 q3 = some (.tup (tv mF)) := h3
  exact k q4 H4 ((((e0.trans e1).trans e2).trans e3).trans e4) ⟨q0, q1, q2, q3, h4, e4.look (e3.look (e2.look (e1.look h0'))), e4.look (e3.look (e2.look h1')), e4.look (e3.look h2'), e4.look h3'⟩
set_option maxHeartbeats 1000000 in
theorem ok__law_all_words {P : Program} {w : World} {K : PySem.W.Frag} {mg : Str → Option Value} {base : Heap} {c : Ad} {f : Addr} {fd : FuncData} (F : Fun K "_law_all_words" "_law_all_words" s__law_all_words f fd) (T : Txt K mg c)  :
    FnOk P w K mg base (L2N.CX P w) 1 f fd ["_law_menu"] (sp__law_all_words c) := by
  refine GG.Fun.okN F sc__law_all_words (fun vs H Q E h => h.1) (fun cdv ar ou sh H vs Q E hr h => ?_)
  obtain ⟨_, m, rfl, ⟨a0, a1, a2, a3, hm, m0, m1, m2, m3⟩, k⟩ := h
  have tk := L2N.takes_of (X := cxOf (L2N.CX P w) P w K mg base ["_law_menu", "_law_rows", "_law_order", "_law_place", "_law_evict", "_law_fill"] "_law_all_words" (defScope s__law_all_words) f cdv ar ou sh H E) rfl rfl rfl rfl
  refine ⟨_, (pss_cons (ps_asg (pe_lst pa_nil) (pg_name (i := 1) sc__law_all_words.nd rfl (Or.inl rfl)))
      (pss_cons (ps_for (passes_of rfl) rfl (pi_tupK K (pi_tup (pe_ix (u_ix K) (pv 0) pe_int (fun _ _ => rfl)))) (pg_name (i := 2) sc__law_all_words.nd rfl (Or.inl rfl))
      (pss_one (ps_for (passes_of rfl) rfl (pi_tupK K (pi_tup (pe_ix (u_ix K) (pv 0) pe_int (fun _ _ => rfl)))) (pg_name (i := 3) sc__law_all_words.nd rfl (Or.inl rfl))
      (pss_one (ps_for (passes_of rfl) rfl (pi_tupK K (pi_tup (pe_ix (u_ix K) (pv 0) pe_int (fun _ _ => rfl)))) (pg_name (i := 4) sc__law_all_words.nd rfl (Or.inl rfl))
      (pss_one (ps_for (passes_of rfl) rfl (pi_tupK K (pi_tup (pe_ix (u_ix K) (pv 0) pe_int (fun _ _ => rfl)))) (pg_name (i := 5) sc__law_all_words.nd rfl (Or.inl rfl))
      (pss_one (ps_expr (pe_bmK K (pe_bm PySem.F.plainAttrs_list PySem.F.slot_list_append PySem.F.type_list_append m_append (pv 1) (pa_cons (pe_tup (pa_cons (pv 2) (pa_cons (pv 3) (pa_cons (pv 4) (pa_cons (pv 5) pa_nil))))) pa_nil))))))))))))
      (pss_one (ps_ret (pv 1))))), ?_⟩
  try dsimp only [L2H.cxH, cxOf, Cx.suite, Cx.tr, List.map_cons, List.map_nil]
  refine run_start (σ := [some (.ref m), none, none, none, none, none]) rfl ?_
  clear tk
  reads_via
  rename_i q H0 nq e0 h0
  refine f_tup (xs := tv mO) (fun i σ H' => ∃ us v2 v3 v4 v5, σ = [some (.ref m), some (.ref q), v2, v3, v4, v5] ∧ Ext H H' ∧ H' q = some (.lst (us.map V.ref)) ∧ RowsN H' us (27 * i)) ⟨[], none, none, none, none, rfl, e0, h0, rfl, by simp⟩ (by rintro i σ H' hi ⟨us, v2, v3, v4, v5, rfl, e, _⟩; exact SqT.of (e.look m0)) ?_ ?_
  rotate_left
  · rintro σ H' ⟨us, v2, v3, v4, v5, rfl, e, hq, hr⟩
    reads_via
    exact k q H' nq e ⟨us, hq, hr⟩
  clear h0 e0
  rintro i0 x σ H1 hx ⟨us, v2, v3, v4, v5, rfl, e1, hq, hr⟩
  have hi0 : i0 < 4 := by have := (List.getElem?_eq_some_iff.mp hx).1; rw [tv_len] at this; exact this
  rw [tv_at (show i0 < mO.length from hi0)] at hx
  cases hx
  reads_via
  refine f_tup (xs := tv mP) (fun i σ H' => ∃ us v3 v4 v5, σ = [some (.ref m), some (.ref q), some (.str (S (mO.getD i0 []))), v3, v4, v5] ∧ Ext H H' ∧ H' q = some (.lst (us.map V.ref)) ∧ RowsN H' us (27 * i0 + 9 * i)) ⟨us, v3, v4, v5, rfl, e1, hq, hr⟩ (by rintro i σ H' hi ⟨us, v3, v4, v5, rfl, e, _⟩; exact SqT.of (e.look m1)) ?_ ?_
  rotate_left
  · rintro σ H' ⟨us, v3, v4, v5, rfl, e, hq, hr⟩
    exact ⟨us, _, _, _, _, rfl, e, hq, hr⟩
  clear hq hr e1
  rintro i1 x σ H1 hx ⟨us, v3, v4, v5, rfl, e1, hq, hr⟩
  have hi1 : i1 < 3 := by have := (List.getElem?_eq_some_iff.mp hx).1; rw [tv_len] at this; exact this
  rw [tv_at (show i1 < mP.length from hi1)] at hx
  cases hx
  reads_via
  refine f_tup (xs := tv mE) (fun i σ H' => ∃ us v4 v5, σ = [some (.ref m), some (.ref q), some (.str (S (mO.getD i0 []))), some (.str (S (mP.getD i1 []))), v4, v5] ∧ Ext H H' ∧ H' q = some (.lst (us.map V.ref)) ∧ RowsN H' us (27 * i0 + 9 * i1 + 3 * i)) ⟨us, v4, v5, rfl, e1, hq, hr⟩ (by rintro i σ H' hi ⟨us, v4, v5, rfl, e, _⟩; exact SqT.of (e.look m2)) ?_ ?_
  rotate_left
  · rintro σ H' ⟨us, v4, v5, rfl, e, hq, hr⟩
    exact ⟨us, _, _, _, rfl, e, hq, hr⟩
  clear hq hr e1
  rintro i2 x σ H1 hx ⟨us, v4, v5, rfl, e1, hq, hr⟩
  have hi2 : i2 < 3 := by have := (List.getElem?_eq_some_iff.mp hx).1; rw [tv_len] at this; exact this
  rw [tv_at (show i2 < mE.length from hi2)] at hx
  cases hx
  reads_via
  refine f_tup (xs := tv mF) (fun i σ H' => ∃ us v5, σ = [some (.ref m), some (.ref q), some (.str (S (mO.getD i0 []))), some (.str (S (mP.getD i1 []))), some (.str (S (mE.getD i2 []))), v5] ∧ Ext H H' ∧ H' q = some (.lst (us.map V.ref)) ∧ RowsN H' us (27 * i0 + 9 * i1 + 3 * i2 + i)) ⟨us, v5, rfl, e1, hq, hr⟩ (by rintro i σ H' hi ⟨us, v5, rfl, e, _⟩; exact SqT.of (e.look m3)) ?_ ?_
  rotate_left
  · rintro σ H' ⟨us, v5, rfl, e, hq, hr⟩
    exact ⟨us, _, _, rfl, e, hq, hr⟩
  clear hq hr e1
  rintro i3 x σ H1 hx ⟨us, v5, rfl, e1, hq, hr⟩
  have hi3 : i3 < 3 := by have := (List.getElem?_eq_some_iff.mp hx).1; rw [tv_len] at this; exact this
  rw [tv_at (show i3 < mF.length from hi3)] at hx
  cases hx
  reads_via
  rename_i u H2 nu e2 hu
  have hrow := row_at (a := i0) hi1 hi2 hi3
  have hlen := hr.1
  refine v_append (e2.look hq) (by simp; omega) fun H3 b3 h3 => ?_
  reads_via
  refine ⟨us ++ [u], _, rfl, b3.ext (e1.trans e2) nq, by rw [h3]; simp, ((hr.ext e2).add (by rw [hrow]; exact hu)).but b3 ⟨_, e2.look hq⟩⟩
theorem v_isLL {K : PySem.W.Frag} {H : Hp} {Q : VK} {a : Addr} {vs : List V} (ha : H a = some (.lst vs)) (q : Q (.bl true) H) : rIsi K [.ref a, .ty "list"] H Q := ⟨.ref a, .ty "list", .type "list", .type "list", true, rfl, .ty _, .base (.lst ha), kit_ty (by decide +kernel), q⟩
set_option maxHeartbeats 1000000 in
theorem ok__law_is_indexes {P : Program} {w : World} {K : PySem.W.Frag} {mg : Str → Option Value} {base : Heap} {c : Ad} {f : Addr} {fd : FuncData} (F : Fun K "_law_is_indexes" "_law_is_indexes" s__law_is_indexes f fd) (T : Txt K mg c)  :
    FnOk P w K mg base (L2N.CX P w) 1 f fd ["_law_answer", "_law_due"] (sp__law_is_indexes c) := by
  refine GG.Fun.okN F sc__law_is_indexes (fun vs H Q E h => h.1) (fun cdv ar ou sh H vs Q E hr h => ?_)
  obtain ⟨_, a, b, ns, rfl, ha, hb, hl, k⟩ := h
  have tk := L2N.takes_of (X := cxOf (L2N.CX P w) P w K mg base ["_law_answer", "_law_due", "_law_k"] "_law_is_indexes" (defScope s__law_is_indexes) f cdv ar ou sh H E) rfl rfl rfl rfl
  refine ⟨_, (pss_cons (ps_if (PW.pt (pw_or (pt_not (pt_tru K (pe_callB (c_isi K) (by rfl) T.b_isinstance (by decide +kernel) (pa_cons (pv 0) (pa_cons (pe_bltn (v := .ty "list") rfl T.b_list (by decide +kernel) rfl) pa_nil))) (by intro _; rfl))) (pw_or1 (pt_cmpR (u_ne K hr.units) (pe_callB (c_len K) (by rfl) T.b_len (by decide +kernel) (pa_cons (pv 0) pa_nil)) (pe_callB (c_len K) (by rfl) T.b_len (by decide +kernel) (pa_cons (pv 1) pa_nil)) (nomark _)))))
      (pss_one (ps_ret pe_bl))
      pss_nil)
      (pss_cons (ps_for (passes_of rfl) rfl (pi_range1 (by rfl) T.b_range (pa_cons (pe_callB (c_len K) (by rfl) T.b_len (by decide +kernel) (pa_cons (pv 1) pa_nil)) pa_nil)) (pg_name (i := 2) sc__law_is_indexes.nd rfl (Or.inl rfl))
      (pss_cons (ps_if (PW.pt (pw_or (pt_not (pt_tru K (pe_callB (c_isi K) (by rfl) T.b_isinstance (by decide +kernel) (pa_cons (pe_ix (u_ix K) (pv 0) (pv 2) (fun _ _ => rfl)) (pa_cons (pe_bltn (v := .ty "int") rfl T.b_int (by decide +kernel) rfl) pa_nil))) (by intro _; rfl))) (pw_or1 (pt_tru K (pe_callB (c_isi K) (by rfl) T.b_isinstance (by decide +kernel) (pa_cons (pe_ix (u_ix K) (pv 0) (pv 2) (fun _ _ => rfl)) (pa_cons (pe_bltn (v := .ty "bool") rfl T.b_bool (by decide +kernel) rfl) pa_nil))) (by intro _; rfl)))))
      (pss_one (ps_ret pe_bl))
      pss_nil)
      (pss_one (ps_if (pt_cmpR (u_ne K hr.units) (pe_ix (u_ix K) (pv 0) (pv 2) (fun _ _ => rfl)) (pe_ix (u_ix K) (pv 1) (pv 2) (fun _ _ => rfl)) (nomark _))
      (pss_one (ps_ret pe_bl))
      pss_nil))))
      (pss_one (ps_ret pe_bl)))), ?_⟩
  try dsimp only [L2H.cxH, cxOf, Cx.suite, Cx.tr, List.map_cons, List.map_nil]
  refine run_start (σ := [some (.ref a), some (.ref b), none]) rfl ?_
  clear tk
  reads_via
  refine v_isLL ha ?_
  reads_via
  simp only [List.length_map]
  refine r_rng1 (by omega) (by omega) ?_
  rw [Int.toNat_natCast]
  refine f_range0 (fun i σ H' => ∃ (v2 : Option V), σ = [some (.ref a), some (.ref b), v2] ∧ H' = H) ⟨none, rfl, rfl⟩ ?_ ?_
  · rintro i σ H' hi ⟨v2, rfl, rfl⟩
    have h1 : (ns.map V.int)[i]? = some (.int ns[i]) := by rw [List.getElem?_map, List.getElem?_eq_getElem hi]; rfl
    reads_via
    refine v_ixLn ha h1 ?_
    reads_via
    refine v_ixLn ha h1 ?_
    reads_via
    refine v_ixLn ha h1 ?_
    reads_via
    refine v_ixLn hb h1 ?_
    reads_via
    exact ⟨_, rfl, rfl⟩
  · rintro σ H' ⟨v2, rfl, rfl⟩
    reads_via
    exact k
theorem menT {K : PySem.W.Frag} {mg : Str → Option Value} {c : Ad} (T : Txt K mg c) {i : Nat} (hi : i < 4) : ∃ t, ([.ref c.t_ORDERS, .ref c.t_PLACES, .ref c.t_EVICTS, .ref c.t_FILLS] : List V)[i]? = some (.ref t) ∧ KTup K t (tv (mn i)) := by
  match i, hi with
  | 0, _ => exact ⟨_, rfl, T.kt_ORDERS⟩
  | 1, _ => exact ⟨_, rfl, T.kt_PLACES⟩
  | 2, _ => exact ⟨_, rfl, T.kt_EVICTS⟩
  | 3, _ => exact ⟨_, rfl, T.kt_FILLS⟩
set_option maxHeartbeats 1000000 in
theorem ok__law_class_values {P : Program} {w : World} {K : PySem.W.Frag} {mg : Str → Option Value} {base : Heap} {c : Ad} {f : Addr} {fd : FuncData} (F : Fun K "_law_class_values" "_law_class_values" s__law_class_values f fd) (T : Txt K mg c)  :
    FnOk P w K mg base (L2N.CX P w) 1 f fd ["_law_menu"] (sp__law_class_values c) := by
  refine GG.Fun.okN F sc__law_class_values (fun vs H Q E h => h.1) (fun cdv ar ou sh H vs Q E hr h => ?_)
  obtain ⟨_, m, rfl, hM, k⟩ := h
  have tk := L2N.takes_of (X := cxOf (L2N.CX P w) P w K mg base ["_law_menu", "_law_values", "_law_k"] "_law_class_values" (defScope s__law_class_values) f cdv ar ou sh H E) rfl rfl rfl rfl
  refine ⟨_, (pss_cons (ps_asg (pe_lst (pa_cons (pe_ccon rfl T.g_Policy T.cc_Policy_ORDERS) (pa_cons (pe_ccon rfl T.g_Policy T.cc_Policy_PLACES) (pa_cons (pe_ccon rfl T.g_Policy T.cc_Policy_EVICTS) (pa_cons (pe_ccon rfl T.g_Policy T.cc_Policy_FILLS) pa_nil))))) (pg_name (i := 1) sc__law_class_values.nd rfl (Or.inl rfl)))
      (pss_cons (ps_for (passes_of rfl) rfl (pi_range1 (by rfl) T.b_range (pa_cons pe_int pa_nil)) (pg_name (i := 2) sc__law_class_values.nd rfl (Or.inl rfl))
      (pss_one (ps_if (PW.pt (pw_or (pt_not (pt_tru K (pe_callB (c_isi K) (by rfl) T.b_isinstance (by decide +kernel) (pa_cons (pe_ix (u_ix K) (pv 1) (pv 2) (fun _ _ => rfl)) (pa_cons (pe_bltn (v := .ty "tuple") rfl T.b_tuple (by decide +kernel) rfl) pa_nil))) (by intro _; rfl))) (pw_or1 (pt_cmpR (u_ne K hr.units) (pe_ix (u_ix K) (pv 1) (pv 2) (fun _ _ => rfl)) (pe_ix (u_ix K) (pv 0) (pv 2) (fun _ _ => rfl)) (nomark _)))))
      (pss_one (ps_ret pe_bl))
      pss_nil)))
      (pss_one (ps_ret pe_bl)))), ?_⟩
  try dsimp only [L2H.cxH, cxOf, Cx.suite, Cx.tr, List.map_cons, List.map_nil]
  refine run_start (σ := [some (.ref m), none, none]) rfl ?_
  clear tk
  reads_via
  rename_i q H1 nq e1 hq
  refine f_range0 (fun i σ H' => ∃ (v2 : Option V), σ = [some (.ref m), some (.ref q), v2] ∧ H' = H1) ⟨none, rfl, rfl⟩ ?_ ?_
  · rintro i σ H' hi ⟨v2, rfl, rfl⟩
    have hi4 : i < 4 := hi
    obtain ⟨xs, a, hp, hxa, ha⟩ := (hM.ext e1).at hi4
    obtain ⟨t, ht, hs⟩ := menT T hi4
    reads_via
    refine v_ixLn hq ht ?_
    reads_via
    refine v_isTupSq hs.ty ?_
    reads_via
    refine v_ixLn hq ht ?_
    reads_via
    refine v_ixTn hp hxa ?_
    reads_via
    have hlt : ∀ w ∈ mn i, ∀ d ∈ w, d < 128 := fun w hw => (mn_tx hw).1.1
    rw [tv_S] at hs ha
    refine v_neSq (strOk_tv hlt) (strOk_tv hlt) hs.sq (SqT.of ha) ?_
    reads_via
    exact ⟨_, rfl, rfl⟩
  · rintro σ H' ⟨v2, rfl, rfl⟩
    reads_via
    exact k _ e1
set_option maxHeartbeats 1000000 in
theorem ok_Policy___init__ {P : Program} {w : World} {K : PySem.W.Frag} {mg : Str → Option Value} {base : Heap} {c : Ad} {f : Addr} {fd : FuncData} (F : Fun K "__init__" "Policy.__init__" s_Policy___init__ f fd) (T : Txt K mg c) (F_wrong_word : Fn P w K mg base "wrong_word" 1 ["words"] [] (sp_wrong_word c)) :
    FnOk P w K mg base (L2N.CX P w) 2 f fd ["self", "order", "place", "evict", "fill"] (sp_Policy___init__ c) := by
  refine GG.Fun.okN F sc_Policy___init__ (fun vs H Q E h => h.1) (fun cdv ar ou sh H vs Q E hr h => ?_)
  obtain ⟨_, x, dx, w0, w1, w2, w3, rfl, hx, kQ, kE⟩ := h
  have hO := T.o_Policy
  have hcl := T.o_Policy.cl
  have n_order := T.na_Policy_order
  have n_place := T.na_Policy_place
  have n_evict := T.na_Policy_evict
  have n_fill := T.na_Policy_fill
  have n_all_words := T.na_Policy_all_words
  have tk := L2N.takes_of (X := cxOf (L2N.CX P w) P w K mg base ["self", "order", "place", "evict", "fill", "words", "wrong"] "Policy.__init__" (defScope s_Policy___init__) f cdv ar ou sh H E) rfl rfl rfl rfl
  refine ⟨_, (pss_cons (ps_asg (pe_tup (pa_cons (pv 1) (pa_cons (pv 2) (pa_cons (pv 3) (pa_cons (pv 4) pa_nil))))) (pg_name (i := 5) sc_Policy___init__.nd rfl (Or.inl rfl)))
      (pss_cons (ps_asg (pe_fn F_wrong_word (hr.mono (by decide)) (ps_of tk) (pa_cons (pv 5) pa_nil)) (pg_name (i := 6) sc_Policy___init__.nd rfl (Or.inl rfl)))
      (pss_cons (ps_if (pt_cmpR u_notN (pv 6) pe_non (nomark _))
      (pss_one (ps_raiseErr T.e_BadPolicy hr tk (pa_cons (pe_ix (u_ix K) (pv 5) (pv 6) (fun _ _ => rfl)) pa_nil)))
      pss_nil)
      (pss_cons (ps_fldK K (ps_fld (pv 0) (pv 1) rfl))
      (pss_cons (ps_fldK K (ps_fld (pv 0) (pv 2) rfl))
      (pss_cons (ps_fldK K (ps_fld (pv 0) (pv 3) rfl))
      (pss_cons (ps_fldK K (ps_fld (pv 0) (pv 4) rfl))
      (pss_one (ps_fldK K (ps_fld (pv 0) (pv 5) rfl)))))))))), ?_⟩
  try dsimp only [L2H.cxH, cxOf, Cx.suite, Cx.tr, List.map_cons, List.map_nil]
  refine run_start (σ := [some (.ref x), some (.str (S w0)), some (.str (S w1)), some (.str (S w2)), some (.str (S w3)), none, none]) rfl ?_
  clear tk
  reads_via
  rename_i q1 H1 n1 e1 h1
  refine ⟨rfl, q1, [w0, w1, w2, w3], rfl, .inl h1, rfl, fun i H2 hf e2 => ?_, fun hok H2 e2 => ?_⟩
  · reads_via
    refine v_ixTn (e2.look h1) (tv_at (ws := [w0, w1, w2, w3]) hf.1) ?_
    reads_via
    refine v_raise fun d H3 nd e3 h3 => ?_
    exact kE i hf d H3 ((e1.trans e2).trans e3) h3
  · reads_via
    have hx2 : H2 x = some (.ins c.Policy dx []) := e2.look (e1.look hx)
    have h12 := e2.look h1
    have nx : q1 ≠ x := Ne.symm (ne_of_none hx n1)
    refine r_putF hx2 hcl n_order (by show 0 < 1000; decide) (chg fun H3 b3 h3 => ?_)
    reads_via
    refine r_putF h3 hcl n_place (by show 1 < 1000; decide) (chg fun H4 b4 h4 => ?_)
    reads_via
    refine r_putF h4 hcl n_evict (by show 2 < 1000; decide) (chg fun H5 b5 h5 => ?_)
    reads_via
    refine r_putF h5 hcl n_fill (by show 3 < 1000; decide) (chg fun H6 b6 h6 => ?_)
    reads_via
    refine r_putF h6 hcl n_all_words (by show 4 < 1000; decide) (chg fun H7 b7 h7 => ?_)
    have bb := ((((b3.trans b4).trans b5).trans b6).trans b7)
    exact kQ hok q1 H7 n1 (fun a o n ha => bb a o n ((e1.trans e2).look ha)) h7 (bb.look nx h12)
set_option maxHeartbeats 4000000 in
theorem ok__law_pool {P : Program} {w : World} {K : PySem.W.Frag} {mg : Str → Option Value} {base : Heap} {c : Ad} {f : Addr} {fd : FuncData} (F : Fun K "_law_pool" "_law_pool" s__law_pool f fd) (T : Txt K mg c) (F__law_mixed : Fn P w K mg base "_law_mixed" 1 ["_law_seed", "_law_k"] [] (sp__law_mixed c)) :
    FnOk P w K mg base (L2N.CX P w) 2 f fd ["_law_script", "_law_table"] (sp__law_pool c) := by
  refine GG.Fun.okN F sc__law_pool (fun vs H Q E h => h.1) (fun cdv ar ou sh H vs Q E hr h => ?_)
  obtain ⟨_, a, t, ns, ts, rfl, hS, hn, ht, htl, k⟩ := h
  rw [T.kk] at hS
  have tk := L2N.takes_of (X := cxOf (L2N.CX P w) P w K mg base ["_law_script", "_law_table", "_law_nums", "_law_seed", "_law_k", "_law_cell", "_law_j", "_law_number"] "_law_pool" (defScope s__law_pool) f cdv ar ou sh H E) rfl rfl rfl rfl
  refine ⟨_, (pss_cons (ps_asg (pe_lst pa_nil) (pg_name (i := 2) sc__law_pool.nd rfl (Or.inl rfl)))
      (pss_cons (ps_asg pe_int (pg_name (i := 3) sc__law_pool.nd rfl (Or.inr rfl)))
      (pss_cons (ps_for (passes_of rfl) rfl (pi_range1 (by rfl) T.b_range (pa_cons (pe_callB (c_len K) (by rfl) T.b_len (by decide +kernel) (pa_cons (pv 0) pa_nil)) pa_nil)) (pg_name (i := 4) sc__law_pool.nd rfl (Or.inr rfl))
      (pss_cons (ps_asg (pe_callB c_abs (by rfl) T.b_abs (by decide +kernel) (pa_cons (pe_callTy c_int2 (by rfl) T.b_int (by decide +kernel) (pa_cons (pe_ix (u_ix K) (pv 0) (pv 4) (fun _ _ => rfl)) pa_nil)) pa_nil)) (pg_name (i := 5) sc__law_pool.nd rfl (Or.inl rfl)))
      (pss_cons (ps_asg (pe_op u_mod (pe_callTy c_int2 (by rfl) T.b_int (by decide +kernel) (pa_cons (pe_op (u_add K) (pe_op (u_add K) (pe_op (u_add K) (pe_op u_mul (pv 3) pe_int) (pe_op u_mul (pv 5) pe_int)) (pe_callTy c_int2 (by rfl) T.b_int (by decide +kernel) (pa_cons (pe_cmpR u_lt (pe_ix (u_ix K) (pv 0) (pv 4) (fun _ _ => rfl)) pe_int (nomark _)) pa_nil))) pe_int) pa_nil)) pe_int) (pg_name (i := 3) sc__law_pool.nd rfl (Or.inr rfl)))
      (pss_cons (ps_if (pt_cmpR u_lt (pv 5) (pe_op u_pow pe_int pe_int) (nomark _))
      (pss_cons (ps_expr (pe_bmK K (pe_bm PySem.F.plainAttrs_list PySem.F.slot_list_extend PySem.F.type_list_extend (m_extend K) (pv 2) (pa_cons (pe_lcV [6] (pe_lc (own := [("_law_j", 6)]) (by rfl) sc__law_pool.nd (pi_range1 (by rfl) T.b_range (pa_cons pe_int pa_nil)) (blkOk_by (own := [("_law_j", 6)]) (N := ["_law_script", "_law_table", "_law_nums", "_law_seed", "_law_k", "_law_cell", "_law_j", "_law_number"]) (sc := defScope s__law_pool) (by decide +kernel)) (fun _ _ _ _ _ => (pg_name (i := 6) sc__law_pool.nd rfl (Or.inl rfl))) (fun _ _ _ _ _ => pts_nil) (fun _ _ _ _ _ => (pe_fn F__law_mixed (hr.mono (by decide)) ps0 (pa_cons (pv 3) (pa_cons (pe_op (u_add K) (pe_op u_mul pe_int (pv 4)) (pv 6)) pa_nil)))))) pa_nil))))
      (pss_one (ps_asg pe_int (pg_name (i := 5) sc__law_pool.nd rfl (Or.inl rfl)))))
      pss_nil)
      (pss_one (ps_for (passes_of rfl) rfl (pi_range1 (by rfl) T.b_range (pa_cons pe_int pa_nil)) (pg_name (i := 6) sc__law_pool.nd rfl (Or.inl rfl))
      (pss_one (ps_if (pt_cmpR u_gt (pv 5) pe_int (nomark _))
      (pss_cons (ps_expr (pe_bmK K (pe_bm PySem.F.plainAttrs_list PySem.F.slot_list_append PySem.F.type_list_append m_append (pv 2) (pa_cons (pe_op u_mod (pe_callTy c_int2 (by rfl) T.b_int (by decide +kernel) (pa_cons (pv 5) pa_nil)) pe_int) pa_nil))))
      (pss_one (ps_asg (pe_op u_fdiv (pv 5) pe_int) (pg_name (i := 5) sc__law_pool.nd rfl (Or.inl rfl)))))
      pss_nil))))))))
      (pss_cons (ps_for (passes_of rfl) rfl (pi_range2 (by rfl) T.b_range (pa_cons (pe_callB (c_len K) (by rfl) T.b_len (by decide +kernel) (pa_cons (pv 2) pa_nil)) (pa_cons (pe_callB (c_len K) (by rfl) T.b_len (by decide +kernel) (pa_cons (pv 1) pa_nil)) pa_nil))) (pg_name (i := 4) sc__law_pool.nd rfl (Or.inr rfl))
      (pss_cons (ps_asg (pe_ix (u_ix K) (pv 1) (pv 4) (fun _ _ => rfl)) (pg_name (i := 7) sc__law_pool.nd rfl (Or.inl rfl)))
      (pss_cons (ps_if (pt_cmpR u_gt (pe_callB (c_len K) (by rfl) T.b_len (by decide +kernel) (pa_cons (pv 0) pa_nil)) pe_int (nomark _))
      (pss_one (ps_asg (pe_op (u_add K) (pv 7) (pe_fn F__law_mixed (hr.mono (by decide)) (ps_of tk) (pa_cons (pv 3) (pa_cons (pe_op (u_add K) pe_int (pv 4)) pa_nil)))) (pg_name (i := 7) sc__law_pool.nd rfl (Or.inl rfl))))
      pss_nil)
      (pss_one (ps_expr (pe_bmK K (pe_bm PySem.F.plainAttrs_list PySem.F.slot_list_append PySem.F.type_list_append m_append (pv 2) (pa_cons (pe_op u_mod (pe_callTy c_int2 (by rfl) T.b_int (by decide +kernel) (pa_cons (pv 7) pa_nil)) pe_int) pa_nil))))))))
      (pss_one (ps_ret (pv 2))))))), ?_⟩
  try dsimp only [L2H.cxH, cxOf, Cx.suite, Cx.tr, List.map_cons, List.map_nil]
  refine run_start (σ := [some (.ref a), some (.ref t), none, none, none, none, none, none]) rfl ?_
  clear tk
  reads_via
  rename_i q H0 nq e0 h0
  refine v_lenSq (e0.sq hS) ?_
  rw [List.length_map]
  reads_via
  refine r_rng1 (by omega) (by omega) ?_
  rw [Int.toNat_natCast]
  refine f_range0 (fun i σ H' => ∃ (ps : List Int) (s : Int) (v4 v5 v6 : Option V), σ = [some (.ref a), some (.ref t), some (.ref q), some (.int s), v4, v5, v6, none] ∧ Ext H H' ∧ H' q = some (.lst (ps.map V.int)) ∧ (0 ≤ s ∧ s < 2147483629) ∧ (∀ n ∈ ps, 0 ≤ n ∧ n < 5040) ∧ ps.length ≤ 63 * i) ⟨[], 0, none, none, none, rfl, e0, h0, by decide, by simp, Nat.le_refl _⟩ ?_ ?_
  · rintro i σ H1 hi ⟨ps, s, v4, v5, v6, rfl, e1, hq, hs, hps, hl⟩
    have hz : (ns.map V.int)[i]? = some (.int ns[i]) := by rw [List.getElem?_map, List.getElem?_eq_getElem hi]; rfl
    generalize ns[i] = z at hz
    reads_via
    refine v_ixSq (e1.sq hS) hz ?_
    reads_via
    refine v_ixSq (e1.sq hS) hz ?_
    reads_via
    refine .inl (v_intB ?_)
    o_reads
    generalize (if decide (z < 0) = true then (1 : Int) else 0) = bz
    generalize (if z < 0 then -z else z) = cell
    have hs2 : 0 ≤ (s * 8191 + cell * 2 + bz + 1) % 2147483629 ∧ (s * 8191 + cell * 2 + bz + 1) % 2147483629 < 2147483629 := ⟨Int.emod_nonneg _ (by decide), Int.emod_lt_of_pos _ (by decide)⟩
    generalize (s * 8191 + cell * 2 + bz + 1) % 2147483629 = s2 at hs2 ⊢
    clear hs s
    refine run_cut (fun σ' H' => ∃ (ps : List Int) (cl : Int) (v6 : Option V), σ' = [some (.ref a), some (.ref t), some (.ref q), some (.int s2), some (.int (i : Int)), some (.int cl), v6, none] ∧ Ext H H' ∧ H' q = some (.lst (ps.map V.int)) ∧ (∀ n ∈ ps, 0 ≤ n ∧ n < 5040) ∧ ps.length ≤ 63 * i + 3) (fun nx' hn' => ?_) ?_
    · reads_via
      refine v_pow ⟨by decide, by decide, by decide⟩ ?_
      reads_via
      refine br_d (fun c1 => ?_) (fun c1 => ?_)
      · reads_via
        refine lcE walk_range (by decide) (fun _ y => ∃ r : Int, y = .int r ∧ (0 ≤ r ∧ r < 5040)) (fun _ _ => trivial) (fun _ _ _ _ h => h.1) (fun i x H2 k2 hi2 e2 hy hk => ?_) fun D ys H2 nD e2 hD hyl hyr => ?_
        · obtain ⟨_, rfl⟩ := hy
          reads_via
          refine ⟨rfl, _, _, rfl, fun r hr0 hr1 => ?_⟩
          exact hk _ _ Ext.rfl ⟨r, rfl, hr0, hr1⟩
        obtain ⟨rs, rfl, hrs⟩ := ints_of hyr
        reads_via
        refine v_extend (e2.look hq) hD (by simp at hyl ⊢; omega) fun H3 b3 h3 => ?_
        reads_via
        rw [← List.map_append] at h3
        exact hn' _ _ ⟨ps ++ rs, _, _, rfl, b3.ext (e1.trans e2) nq, h3, fun n hn => (List.mem_append.mp hn).elim (hps n) (hrs n), by simp at hyl ⊢; omega⟩
      · reads_via
        exact hn' _ _ ⟨ps, _, _, rfl, e1, hq, hps, by omega⟩
    clear e1 hq hl hps ps v6
    rintro σ' H2 ⟨ps, cl, v6, rfl, e2, hq, hps, hl⟩
    reads_via
    refine f_range0 (fun j σ H' => ∃ (ps : List Int) (cl : Int) (v6 : Option V), σ = [some (.ref a), some (.ref t), some (.ref q), some (.int s2), some (.int (i : Int)), some (.int cl), v6, none] ∧ Ext H H' ∧ H' q = some (.lst (ps.map V.int)) ∧ (∀ n ∈ ps, 0 ≤ n ∧ n < 5040) ∧ ps.length ≤ 63 * i + 3 + j) ⟨ps, cl, v6, rfl, e2, hq, hps, by omega⟩ ?_ ?_
    · clear e2 hq hps hl ps cl v6
      rintro j σ H3 hj ⟨ps, cl, v6, rfl, e3, hq, hps, hl⟩
      have hj' : j < 60 := hj
      reads_via
      refine br_d (fun c1 => ?_) (fun c1 => ?_)
      · reads_via
        refine v_append hq (by simp; omega) fun H4 e4 h4 => ?_
        reads_via
        refine v_fdiv (cd_small (by decide) (by decide)) ?_
        reads_via
        refine ⟨ps ++ [cl % 5040], _, _, rfl, e4.ext e3 nq, by rw [h4]; simp, fun n hn => ?_, by simp; omega⟩
        rcases List.mem_append.mp hn with z | z
        · exact hps n z
        · rw [List.mem_singleton.mp z]
          exact ⟨Int.emod_nonneg _ (by decide), Int.emod_lt_of_pos _ (by decide)⟩
      · reads_via
        exact ⟨ps, _, _, rfl, e3, hq, hps, by omega⟩
    · rintro σ H3 ⟨ps, cl, v6, rfl, e3, hq, hps, hl⟩
      have h60 : (60 : Int).toNat = 60 := rfl
      exact ⟨ps, s2, _, _, _, rfl, e3, hq, hs2, hps, by omega⟩
  · rintro σ H1 ⟨ps, s, v4, v5, v6, rfl, e1, hq, hs, hps, hl⟩
    clear h0 e0
    reads_via
    rw [List.length_map, List.length_map, htl]
    refine r_rng2 (by omega) (by omega) (by decide) (by decide) ?_
    refine f_range (fun i σ H' => ∃ (ps2 : List Int) (v4 v7 : Option V), σ = [some (.ref a), some (.ref t), some (.ref q), some (.int s), v4, v5, v6, v7] ∧ Ext H H' ∧ H' q = some (.lst (ps2.map V.int)) ∧ (∀ n ∈ ps2, 0 ≤ n ∧ n < 5040) ∧ ps2.length = ps.length + i) ⟨ps, v4, none, rfl, e1, hq, hps, rfl⟩ ?_ ?_
    · rintro i σ H2 hi ⟨ps2, v4, v7, rfl, e2, hq2, hps2, hl2⟩
      have hk : ((ps.length : Int) + (i : Int)) = ((ps.length + i : Nat) : Int) := by omega
      have hk2 : ps.length + i < 16 := by omega
      rw [hk]
      generalize ps.length + i = kk at *
      reads_via
      refine v_ixLn (e2.look ht) (v := .int (ts[kk]'(by omega))) (by rw [List.getElem?_map, List.getElem?_eq_getElem (by omega)]; rfl) ?_
      generalize ts[kk]'(by omega) = tk
      have fin : ∀ (m : Int) (v4 : Option V) H3, Ext H2 H3 → ∃ (ps2' : List Int), H3 q = some (.lst (ps2.map V.int)) := fun m v4 H3 e3 => ⟨[], e3.look hq2⟩
      o_reads
      refine run_cut (fun σ' H' => ∃ (m : Int), σ' = [some (.ref a), some (.ref t), some (.ref q), some (.int s), some (.int (kk : Int)), v5, v6, some (.int m)] ∧ H' = H2) (fun nx' hn' => ?_) ?_
      · reads_via
        refine v_lenSq (e2.sq hS) ?_
        reads_via
        refine br_d (fun c1 => ?_) (fun c1 => ?_)
        · reads_via
          refine ⟨rfl, _, _, rfl, fun r hr0 hr1 => ?_⟩
          reads_via
          exact hn' _ _ ⟨_, rfl, rfl⟩
        · reads_via
          exact hn' _ _ ⟨_, rfl, rfl⟩
      rintro σ' H' ⟨m, rfl, rfl⟩
      reads_via
      refine v_append hq2 (by simp; omega) fun H4 e4 h4 => ?_
      reads_via
      refine ⟨ps2 ++ [m % 5040], _, _, rfl, e4.ext e2 nq, by rw [h4]; simp, fun n hn => ?_, by simp; omega⟩
      rcases List.mem_append.mp hn with z | z
      · exact hps2 n z
      · rw [List.mem_singleton.mp z]
        exact ⟨Int.emod_nonneg _ (by decide), Int.emod_lt_of_pos _ (by decide)⟩
    · rintro σ H2 ⟨ps2, v4, v7, rfl, e2, hq2, hps2, hl2⟩
      reads_via
      exact k q H2 nq e2 ⟨ps2, hq2, by omega, hps2⟩
set_option maxHeartbeats 4000000 in
theorem ok__law_word {P : Program} {w : World} {K : PySem.W.Frag} {mg : Str → Option Value} {base : Heap} {c : Ad} {f : Addr} {fd : FuncData} (F : Fun K "_law_word" "_law_word" s__law_word f fd) (T : Txt K mg c) (F__law_sign : Fn P w K mg base "_law_sign" 1 ["_law_number"] [] (sp__law_sign c)) :
    FnOk P w K mg base (L2N.CX P w) 2 f fd ["_law_menu", "_law_place", "_law_number", "_law_second"] (sp__law_word c) := by
  refine GG.Fun.okN F sc__law_word (fun vs H Q E h => h.1) (fun cdv ar ou sh H vs Q E hr h => ?_)
  obtain ⟨_, p, i, n, m, rfl, hM, hi, k⟩ := h
  obtain ⟨xs, a, hp, hxa, ha⟩ := hM.at hi
  obtain ⟨hl3, hl4⟩ := mn_len i hi
  have tk := L2N.takes_of (X := cxOf (L2N.CX P w) P w K mg base ["_law_menu", "_law_place", "_law_number", "_law_second", "_law_row", "_law_kind", "_law_word_here", "_law_at", "_law_signs", "_law_k"] "_law_word" (defScope s__law_word) f cdv ar ou sh H E) rfl rfl rfl rfl
  refine ⟨_, (pss_cons (ps_asg (pe_ix (u_ix K) (pv 0) (pv 1) (fun _ _ => rfl)) (pg_name (i := 4) sc__law_word.nd rfl (Or.inl rfl)))
      (pss_cons (ps_asg (pe_op u_mod (pe_callTy c_int2 (by rfl) T.b_int (by decide +kernel) (pa_cons (pv 2) pa_nil)) pe_int) (pg_name (i := 5) sc__law_word.nd rfl (Or.inl rfl)))
      (pss_cons (ps_asg (pe_ix (u_ix K) (pv 4) (pe_op u_mod (pe_op u_fdiv (pe_callTy c_int2 (by rfl) T.b_int (by decide +kernel) (pa_cons (pv 2) pa_nil)) pe_int) (pe_callB (c_len K) (by rfl) T.b_len (by decide +kernel) (pa_cons (pv 4) pa_nil))) (fun _ _ => rfl)) (pg_name (i := 6) sc__law_word.nd rfl (Or.inl rfl)))
      (pss_cons (ps_asg (pe_op u_mod (pe_callTy c_int2 (by rfl) T.b_int (by decide +kernel) (pa_cons (pv 3) pa_nil)) (pe_callB (c_len K) (by rfl) T.b_len (by decide +kernel) (pa_cons (pv 6) pa_nil))) (pg_name (i := 7) sc__law_word.nd rfl (Or.inl rfl)))
      (pss_cons (ps_if (pt_cmpR (u_eq K hr.units) (pv 5) pe_int (nomark _))
      (pss_cons (ps_asg (pe_ix (u_ix K) (pv 0) (pe_op u_mod (pe_op (u_add K) (pe_op (u_add K) (pv 1) pe_int) (pe_op u_mod (pe_callTy c_int2 (by rfl) T.b_int (by decide +kernel) (pa_cons (pv 3) pa_nil)) pe_int)) pe_int) (fun _ _ => rfl)) (pg_name (i := 4) sc__law_word.nd rfl (Or.inl rfl)))
      (pss_one (ps_ret (pe_ix (u_ix K) (pv 4) (pe_op u_mod (pe_op u_fdiv (pe_callTy c_int2 (by rfl) T.b_int (by decide +kernel) (pa_cons (pv 3) pa_nil)) pe_int) pe_int) (fun _ _ => rfl)))))
      pss_nil)
      (pss_cons (ps_if (pt_cmpR (u_eq K hr.units) (pv 5) pe_int (nomark _))
      (pss_one (ps_ret (pe_op (u_add K) (pe_op (u_add K) (pe_slice (u_sl K) (pv 6) po_none (po_some (pv 7))) (pe_fn F__law_sign (hr.mono (by decide)) (ps_of tk) (pa_cons (pe_op u_fdiv (pe_callTy c_int2 (by rfl) T.b_int (by decide +kernel) (pa_cons (pv 3) pa_nil)) pe_int) pa_nil))) (pe_slice (u_sl K) (pv 6) (po_some (pv 7)) po_none))))
      pss_nil)
      (pss_cons (ps_if (pt_cmpR (u_eq K hr.units) (pv 5) pe_int (nomark _))
      (pss_one (ps_ret (pe_op (u_add K) (pe_slice (u_sl K) (pv 6) po_none (po_some (pv 7))) (pe_slice (u_sl K) (pv 6) (po_some (pe_op (u_add K) (pv 7) pe_int)) po_none))))
      pss_nil)
      (pss_cons (ps_if (pt_cmpR (u_eq K hr.units) (pv 5) pe_int (nomark _))
      (pss_cons (ps_lcV [9] (ps_setLc (i := 8) (own := [("_law_k", 9)])  (by rfl) sc__law_word.nd rfl rfl (sw_true rfl rfl rfl (by decide +kernel)) (pi_range1 (by rfl) T.b_range (pa_cons (pe_op u_mod (pe_callTy c_int2 (by rfl) T.b_int (by decide +kernel) (pa_cons (pv 3) pa_nil)) pe_int) pa_nil)) (blkOk_by (own := [("_law_k", 9)]) (N := ["_law_menu", "_law_place", "_law_number", "_law_second", "_law_row", "_law_kind", "_law_word_here", "_law_at", "_law_signs", "_law_k"]) (sc := defScope s__law_word) (by decide +kernel)) (fun _ _ _ _ _ => (pg_name (i := 9) sc__law_word.nd rfl (Or.inl rfl))) (fun _ _ _ _ _ => pts_nil) (fun _ _ _ _ _ => (pe_fn F__law_sign (hr.mono (by decide)) ps0 (pa_cons (pe_op (u_add K) (pe_callTy c_int2 (by rfl) T.b_int (by decide +kernel) (pa_cons (pv 3) pa_nil)) (pe_op u_mul pe_int (pv 9))) pa_nil)))))
      (pss_one (ps_ret (pe_bmK K (pe_bm PySem.F.plainAttrs_str PySem.F.slot_str_join PySem.F.type_str_join (m_join K) pe_str (pa_cons (pv 8) pa_nil))))))
      pss_nil)
      (pss_cons (ps_if (pt_cmpR (u_eq K hr.units) (pv 5) pe_int (nomark _))
      (pss_one (ps_ret (pe_bm0K K (pe_bm0 PySem.F.plainAttrs_str PySem.F.slot_str_upper PySem.F.type_str_upper m_upper (pv 6)))))
      pss_nil)
      (pss_one (ps_ret (pv 6)))))))))))), ?_⟩
  try dsimp only [L2H.cxH, cxOf, Cx.suite, Cx.tr, List.map_cons, List.map_nil]
  refine run_start (σ := [some (.ref p), some (.int (i : Int)), some (.int (n : Int)), some (.int (m : Int)), none, none, none, none, none, none]) rfl ?_
  clear tk
  rw [s_e]
  have hal := tv_len (mn i)
  reads_via
  refine v_ixTn hp hxa ?_
  reads_via
  refine v_fdiv (cd_small (by decide) (by decide)) ?_
  reads_via
  obtain ⟨z, hz, hzl⟩ : ∃ z : Nat, ((n : Int).fdiv 16) % ((tv (mn i)).length : Int) = (z : Int) ∧ z < (mn i).length := by
    refine ⟨_, (Int.toNat_of_nonneg (Int.emod_nonneg _ (by omega))).symm, ?_⟩
    have h1 := Int.emod_nonneg ((n : Int).fdiv 16) (b := ((tv (mn i)).length : Int)) (by omega)
    have h2 := Int.emod_lt_of_pos ((n : Int).fdiv 16) (b := ((tv (mn i)).length : Int)) (by omega)
    omega
  rw [hz]
  refine v_ixTn ha (tv_at hzl) ?_
  have hw := getD_mem hzl
  generalize (mn i).getD z [] = w at hw ⊢
  obtain ⟨htx, hw1, _⟩ := mn_tx hw
  have hwl := htx.2
  have h60 : Tx 60 w := htx.mono (by decide)
  clear hz hzl z
  reads_via
  refine v_lenSS (by omega) ?_
  reads_via
  obtain ⟨t, ht⟩ : ∃ t : Nat, (m : Int) % (w.length : Int) = (t : Int) := ⟨_, (Int.toNat_of_nonneg (Int.emod_nonneg _ (by omega))).symm⟩
  rw [ht]
  reads_via
  refine br_d (fun c1 => ?_) (fun c1 => ?_)
  · reads_via
    have hm2 : 0 ≤ ((i : Int) + 1 + (m : Int) % 3) % 4 ∧ ((i : Int) + 1 + (m : Int) % 3) % 4 < 4 := by omega
    obtain ⟨i2, hi2⟩ : ∃ i2 : Nat, ((i : Int) + 1 + (m : Int) % 3) % 4 = (i2 : Int) := ⟨_, (Int.toNat_of_nonneg hm2.1).symm⟩
    have hi24 : i2 < 4 := by omega
    rw [hi2]
    obtain ⟨xs2, a2, hp2, hxa2, ha2⟩ := hM.at hi24
    obtain ⟨hl32, hl42⟩ := mn_len i2 hi24
    refine v_ixTn hp2 hxa2 ?_
    reads_via
    refine v_fdiv (cd_small (by decide) (by decide)) ?_
    reads_via
    obtain ⟨z, hz⟩ : ∃ z : Nat, ((m : Int).fdiv 3) % 3 = (z : Int) := ⟨_, (Int.toNat_of_nonneg (Int.emod_nonneg _ (by decide))).symm⟩
    have hz3 : z < (mn i2).length := by have := Int.emod_lt_of_pos ((m : Int).fdiv 3) (show (0 : Int) < 3 by decide); omega
    rw [hz]
    refine v_ixTn ha2 (tv_at hz3) ?_
    exact k _ _ ((mn_tx (getD_mem hz3)).1.mono (by decide)) Ext.rfl
  reads_via
  refine br_d (fun c2 => ?_) (fun c2 => ?_)
  · reads_via
    refine v_slTo (by omega) ?_
    reads_via
    refine v_fdiv (cd_small (by decide) (by decide)) ?_
    reads_via
    refine ⟨rfl, _, rfl, fun d hd => ?_⟩
    reads_via
    refine v_addSS (by simp; omega) ?_
    reads_via
    refine v_slFrom (by omega) ?_
    reads_via
    refine v_addSS (by simp; omega) ?_
    exact k _ _ (((htx.take.app (Tx.one hd)).app htx.drop).mono (by decide)) Ext.rfl
  reads_via
  refine br_d (fun c3 => ?_) (fun c3 => ?_)
  · reads_via
    refine v_slTo (by omega) ?_
    reads_via
    rw [show (t : Int) + 1 = ((t + 1 : Nat) : Int) by omega]
    refine v_slFrom (by omega) ?_
    reads_via
    refine v_addSS (by simp; omega) ?_
    exact k _ _ ((htx.take.app htx.drop).mono (by decide)) Ext.rfl
  reads_via
  refine br_d (fun c4 => ?_) (fun c4 => ?_)
  · reads_via
    have hm7 : 0 ≤ (m : Int) % 7 ∧ (m : Int) % 7 < 7 := by omega
    refine r_rng1 (by omega) (by omega) ?_
    obtain ⟨s7, hs7⟩ : ∃ s : Nat, (m : Int) % 7 = (s : Int) := ⟨_, (Int.toNat_of_nonneg hm7.1).symm⟩
    rw [hs7, Int.toNat_natCast]
    refine lcE walk_range (by omega) (fun _ y => ∃ d, y = .str (S [d]) ∧ d < 128) (fun _ _ => trivial) (fun _ _ _ _ h => h.1) (fun i x H2 k2 hi2 e2 hy hk => ?_) fun D ys H2 nD e2 hD hyl hyr => ?_
    · obtain ⟨_, rfl⟩ := hy
      reads_via
      refine ⟨rfl, _, rfl, fun d hd => ?_⟩
      exact hk _ _ Ext.rfl ⟨d, rfl, hd⟩
    obtain ⟨ds, hds, hdl⟩ : ∃ ds : List Nat, ys = ((ds.map fun d => [d]).map S).map V.str ∧ ∀ d ∈ ds, d < 128 := by
      clear hD hyl
      induction ys with
      | nil => exact ⟨[], rfl, by simp⟩
      | cons y ys ih =>
        obtain ⟨d, rfl, hd⟩ := hyr 0 y rfl
        obtain ⟨ds, rfl, h2⟩ := ih fun j y hy => hyr (j + 1) y hy
        exact ⟨d :: ds, rfl, fun x hx => by rcases List.mem_cons.mp hx with rfl | hx; exact hd; exact h2 x hx⟩
    subst hds
    have hdn : ds.length = s7 := by simpa using hyl
    reads_via
    refine v_joinL hD (by
      have e : ∀ ds : List Nat, (((ds.map fun d => [d]).map S).map (·.length)).sum = ds.length := by
        intro ds
        induction ds with
        | nil => rfl
        | cons d ds ih => simp only [List.map_cons, List.sum_cons, S_len, List.length_cons, List.length_nil] at ih ⊢; omega
      rw [e, S_len]
      simp
      omega) ?_
    rw [glue_S0]
    refine k _ _ ⟨fun d hd => ?_, ?_⟩ e2
    · simp only [List.mem_flatten, List.mem_map] at hd
      obtain ⟨l, ⟨d', hd', rfl⟩, h2⟩ := hd
      rw [List.mem_singleton.mp h2]
      exact hdl d' hd'
    · rw [List.length_flatten, List.map_map]
      have e : ∀ ds : List Nat, (ds.map (List.length ∘ fun d => [d])).sum = ds.length := by
        intro ds
        induction ds with
        | nil => rfl
        | cons d ds ih => simp only [List.map_cons, List.sum_cons, List.length_cons, Function.comp, List.length_nil] at ih ⊢; omega
      rw [e]
      omega
  reads_via
  refine br_d (fun c5 => ?_) (fun c5 => ?_)
  · reads_via
    refine v_upper (by rw [S_len]; omega) ?_
    obtain ⟨mm, hmm, hwm⟩ := mn_mem hw
    obtain ⟨u1, u2⟩ := up_tx mm hmm w hwm
    rw [S_of (Txt.upper (S w))]
    exact k _ _ ⟨fun d hd => by simpa using List.all_eq_true.mp u1 d hd, u2⟩ Ext.rfl
  · reads_via
    exact k _ _ h60 Ext.rfl
set_option maxHeartbeats 8000000 in
theorem ok__law_text {P : Program} {w : World} {K : PySem.W.Frag} {mg : Str → Option Value} {base : Heap} {c : Ad} {f : Addr} {fd : FuncData} (F : Fun K "_law_text" "_law_text" s__law_text f fd) (T : Txt K mg c) (F__law_sign : Fn P w K mg base "_law_sign" 1 ["_law_number"] [] (sp__law_sign c)) :
    FnOk P w K mg base (L2N.CX P w) 2 f fd ["_law_base", "_law_words", "_law_nums"] (sp__law_text c) := by
  refine GG.Fun.okN F sc__law_text (fun vs H Q E h => h.1) (fun cdv ar ou sh H vs Q E hr h => ?_)
  obtain ⟨_, l, ws, q, p, rfl, hx, hq, hl, hw, hN, h4, k⟩ := h
  have hll := hx.2
  have tk := L2N.takes_of (X := cxOf (L2N.CX P w) P w K mg base ["_law_base", "_law_words", "_law_nums", "_law_kind", "_law_at", "_law_sign_here", "_law_parts", "_law_one", "_law_two"] "_law_text" (defScope s__law_text) f cdv ar ou sh H E) rfl rfl rfl rfl
  refine ⟨_, (pss_cons (ps_asg (pe_op u_mod (pe_ix (u_ix K) (pv 2) pe_int (fun _ _ => rfl)) pe_int) (pg_name (i := 3) sc__law_text.nd rfl (Or.inl rfl)))
      (pss_cons (ps_asg (pe_op u_mod (pe_ix (u_ix K) (pv 2) pe_int (fun _ _ => rfl)) (pe_op (u_add K) (pe_callB (c_len K) (by rfl) T.b_len (by decide +kernel) (pa_cons (pv 0) pa_nil)) pe_int)) (pg_name (i := 4) sc__law_text.nd rfl (Or.inl rfl)))
      (pss_cons (ps_asg (pe_fn F__law_sign (hr.mono (by decide)) (ps_of tk) (pa_cons (pe_ix (u_ix K) (pv 2) pe_int (fun _ _ => rfl)) pa_nil)) (pg_name (i := 5) sc__law_text.nd rfl (Or.inl rfl)))
      (pss_cons (ps_asg (pe_bmK K (pe_bm PySem.F.plainAttrs_str PySem.F.slot_str_split PySem.F.type_str_split m_split (pv 0) (pa_cons pe_str pa_nil))) (pg_name (i := 6) sc__law_text.nd rfl (Or.inl rfl)))
      (pss_cons (ps_asg (pe_op u_mod (pe_ix (u_ix K) (pv 2) pe_int (fun _ _ => rfl)) pe_int) (pg_name (i := 7) sc__law_text.nd rfl (Or.inl rfl)))
      (pss_cons (ps_asg (pe_op u_mod (pe_op u_fdiv (pe_ix (u_ix K) (pv 2) pe_int (fun _ _ => rfl)) pe_int) pe_int) (pg_name (i := 8) sc__law_text.nd rfl (Or.inl rfl)))
      (pss_cons (ps_if (pt_cmpR (u_eq K hr.units) (pv 3) pe_int (nomark _))
      (pss_one (ps_ret (pe_op (u_add K) (pe_op (u_add K) (pe_slice (u_sl K) (pv 0) po_none (po_some (pv 4))) (pv 5)) (pe_slice (u_sl K) (pv 0) (po_some (pv 4)) po_none))))
      pss_nil)
      (pss_cons (ps_if (pt_cmpR (u_eq K hr.units) (pv 3) pe_int (nomark _))
      (pss_one (ps_ret (pe_op (u_add K) (pe_slice (u_sl K) (pv 0) po_none (po_some (pv 4))) (pe_slice (u_sl K) (pv 0) (po_some (pe_op (u_add K) (pv 4) pe_int)) po_none))))
      pss_nil)
      (pss_cons (ps_if (pt_cmpR (u_eq K hr.units) (pv 3) pe_int (nomark _))
      (pss_one (ps_ret (pe_op (u_add K) (pe_op (u_add K) (pe_slice (u_sl K) (pv 0) po_none (po_some (pv 4))) (pv 5)) (pe_slice (u_sl K) (pv 0) (po_some (pe_op (u_add K) (pv 4) pe_int)) po_none))))
      pss_nil)
      (pss_cons (ps_if (pt_cmpR (u_eq K hr.units) (pv 3) pe_int (nomark _))
      (pss_one (ps_ret (pe_op (u_add K) (pv 0) pe_str)))
      pss_nil)
      (pss_cons (ps_if (pt_cmpR (u_eq K hr.units) (pv 3) pe_int (nomark _))
      (pss_one (ps_ret (pe_op (u_add K) pe_str (pv 0))))
      pss_nil)
      (pss_cons (ps_if (pt_cmpR (u_eq K hr.units) (pv 3) pe_int (nomark _))
      (pss_one (ps_ret (pe_op (u_add K) (pv 0) pe_str)))
      pss_nil)
      (pss_cons (ps_if1 (u_eq K hr.units) (pv 3) pe1_int (nomark _) (CwR.psst_one (CwR.pst_ret (CwR.pet_replC (pv 0) (by decide +kernel))))
      pss_nil)
      (pss_cons (ps_if (pt_cmpR (u_eq K hr.units) (pv 3) pe_int (nomark _))
      (pss_one (ps_ret (pe_bmK K (pe_bm PySem.F.plainAttrs_str PySem.F.slot_str_join PySem.F.type_str_join (m_join K) pe_str (pa_cons (pv 1) pa_nil)))))
      pss_nil)
      (pss_cons (ps_if (pt_cmpR (u_eq K hr.units) (pv 3) pe_int (nomark _))
      (pss_cons (ps_asg (pe_ix (u_ix K) (pv 6) (pv 8) (fun _ _ => rfl)) (pg_sub (pv 6) (pv 7) u_set))
      (pss_one (ps_ret (pe_bmK K (pe_bm PySem.F.plainAttrs_str PySem.F.slot_str_join PySem.F.type_str_join (m_join K) pe_str (pa_cons (pv 6) pa_nil))))))
      pss_nil)
      (pss_cons (ps_if (pt_cmpR (u_eq K hr.units) (pv 3) pe_int (nomark _))
      (pss_one (ps_ret (pe_bmK K (pe_bm PySem.F.plainAttrs_str PySem.F.slot_str_join PySem.F.type_str_join (m_join K) pe_str (pa_cons (pe_op (u_add K) (pe_slice (u_sl K) (pv 6) po_none (po_some (pv 7))) (pe_slice (u_sl K) (pv 6) (po_some (pe_op (u_add K) (pv 7) pe_int)) po_none)) pa_nil)))))
      pss_nil)
      (pss_cons (ps_if (pt_cmpR (u_eq K hr.units) (pv 3) pe_int (nomark _))
      (pss_one (ps_ret (pe_bmK K (pe_bm PySem.F.plainAttrs_str PySem.F.slot_str_join PySem.F.type_str_join (m_join K) pe_str (pa_cons (pe_op (u_add K) (pe_slice (u_sl K) (pv 6) po_none (po_some (pv 7))) (pe_slice (u_sl K) (pv 6) (po_some (pv 8)) po_none)) pa_nil)))))
      pss_nil)
      (pss_cons (ps_if (pt_cmpR (u_eq K hr.units) (pv 3) pe_int (nomark _))
      (pss_one (ps_ret pe_str))
      pss_nil)
      (pss_one (ps_ret (pv 0))))))))))))))))))))), ?_⟩
  try dsimp only [L2H.cxH, cxOf, Cx.suite, Cx.tr, List.map_cons, List.map_nil]
  refine run_start (σ := [some (.str (S l)), some (.ref q), some (.ref p), none, none, none, none, none, none]) rfl ?_
  clear tk
  rw [s_32, s_32_32, s_10, s_e]
  reads_via
  refine v_num hN (by decide) (by decide) fun n1 hn1 => ?_
  reads_via
  refine v_num hN (by decide) (by decide) fun n2 hn2 => ?_
  reads_via
  refine v_lenSS (by omega) ?_
  reads_via
  obtain ⟨t, ht⟩ : ∃ t : Nat, (n2 : Int) % ((l.length : Int) + 1) = (t : Int) := ⟨_, (Int.toNat_of_nonneg (Int.emod_nonneg _ (by omega))).symm⟩
  rw [ht]
  refine v_num hN (by decide) (by decide) fun n3 hn3 => ?_
  reads_via
  refine ⟨rfl, _, rfl, fun d hd => ?_⟩
  reads_via
  refine v_split (by decide) (by omega) fun r H1 nr e1 hr => ?_
  have hr1 : H1 r = some (.lst (tv (parts 32 l))) := hr
  clear hr
  have hpt : ∀ w ∈ parts 32 l, Tx 60 w := fun w hw => ⟨fun d hd => hx.1 d (parts_all hw hd), by have := parts_len1 hw; omega⟩
  generalize parts 32 l = ps at *
  have hN1 := hN.ext e1
  reads_via
  refine v_num hN1 (by decide) (by decide) fun n4 hn4 => ?_
  reads_via
  refine v_num hN1 (by decide) (by decide) fun n5 hn5 => ?_
  reads_via
  refine v_fdiv (cd_small (by decide) (by decide)) ?_
  reads_via
  obtain ⟨o1, ho1⟩ : ∃ z : Nat, (n4 : Int) % 4 = (z : Int) := ⟨_, (Int.toNat_of_nonneg (Int.emod_nonneg _ (by decide))).symm⟩
  have hl1 : o1 < 4 := by have := Int.emod_lt_of_pos (n4 : Int) (show (0 : Int) < 4 by decide); omega
  obtain ⟨o2, ho2⟩ : ∃ z : Nat, ((n5 : Int).fdiv 4) % 4 = (z : Int) := ⟨_, (Int.toNat_of_nonneg (Int.emod_nonneg _ (by decide))).symm⟩
  have hl2 : o2 < 4 := by have := Int.emod_lt_of_pos ((n5 : Int).fdiv 4) (show (0 : Int) < 4 by decide); omega
  rw [ho1, ho2]
  have o1s : (o1 : Int) + 1 = ((o1 + 1 : Nat) : Int) := by omega
  have ts : (t : Int) + 1 = ((t + 1 : Nat) : Int) := by omega
  clear ho1 ho2 ht
  have k2 : ∀ t, Tx 1000 t → Q (.str (S t)) H1 := fun t ht => k t H1 ht e1
  refine br_d (fun c0 => ?_) (fun c0 => ?_)
  · reads_via
    refine v_slTo (by omega) ?_
    reads_via
    refine v_addSS (by simp; omega) ?_
    reads_via
    refine v_slFrom (by omega) ?_
    reads_via
    refine v_addSS (by simp; omega) ?_
    exact k2 _ (((hx.take.app (Tx.one hd)).app hx.drop).mono (by decide))
  reads_via
  refine br_d (fun c1 => ?_) (fun c1 => ?_)
  · reads_via
    refine v_slTo (by omega) ?_
    reads_via
    rw [ts]
    refine v_slFrom (by omega) ?_
    reads_via
    refine v_addSS (by simp; omega) ?_
    exact k2 _ ((hx.take.app hx.drop).mono (by decide))
  reads_via
  refine br_d (fun c2 => ?_) (fun c2 => ?_)
  · reads_via
    refine v_slTo (by omega) ?_
    reads_via
    refine v_addSS (by simp; omega) ?_
    reads_via
    rw [ts]
    refine v_slFrom (by omega) ?_
    reads_via
    refine v_addSS (by simp; omega) ?_
    exact k2 _ (((hx.take.app (Tx.one hd)).app hx.drop).mono (by decide))
  reads_via
  refine br_d (fun c3 => ?_) (fun c3 => ?_)
  · reads_via
    refine v_addSS (by simp; omega) ?_
    exact k2 _ ((hx.app (Tx.one (b := 10) (by decide))).mono (by decide))
  reads_via
  refine br_d (fun c4 => ?_) (fun c4 => ?_)
  · reads_via
    refine v_addSS (by simp; omega) ?_
    exact k2 _ (((Tx.one (b := 32) (by decide)).app hx).mono (by decide))
  reads_via
  refine br_d (fun c5 => ?_) (fun c5 => ?_)
  · reads_via
    refine v_addSS (by simp; omega) ?_
    exact k2 _ ((hx.app (Tx.one (b := 32) (by decide))).mono (by decide))
  reads_via
  refine br_d (fun c6 => ?_) (fun c6 => ?_)
  · reads_via
    refine v_repl1 (m := [32, 32]) (by simp; omega) ?_
    have hr1 := rep1_len 32 [32, 32] l
    refine k2 _ ⟨fun d hd => ?_, by simp at hr1; omega⟩
    unfold rep1 at hd
    obtain ⟨b, hb, h2⟩ := List.mem_flatMap.mp hd
    split at h2
    · simp at h2; omega
    · rw [List.mem_singleton.mp h2]; exact hx.1 b hb
  reads_via
  refine br_d (fun c7 => ?_) (fun c7 => ?_)
  · reads_via
    have hj := join_tx hw (by omega)
    exact v_joinTv (.inr (e1.look hq)) hj.2 (k2 _ hj.1)
  reads_via
  refine br_d (fun c8 => ?_) (fun c8 => ?_)
  · reads_via
    refine v_ixLn hr1 (tv_at (by omega)) ?_
    reads_via
    refine v_setN hr1 (by rw [tv_len]; omega) fun H2 b2 h2 => ?_
    reads_via
    have e : (tv ps).set o1 (V.str (S (ps.getD o2 []))) = tv (ps.set o1 (ps.getD o2 [])) := by unfold tv; rw [List.map_set]
    rw [e] at h2
    have hj := join_tx (ws := ps.set o1 (ps.getD o2 [])) (fun w hw => (List.mem_or_eq_of_mem_set hw).elim (hpt w) fun z => by rw [z]; exact hpt _ (getD_mem (by omega))) (by simp; omega)
    exact v_joinTv (.inr h2) hj.2 (k _ _ hj.1 (b2.ext e1 nr))
  reads_via
  refine br_d (fun c9 => ?_) (fun c9 => ?_)
  · reads_via
    refine v_slLn hr1 fun r2 H2 nr2 e2 h2 => ?_
    reads_via
    rw [o1s]
    refine v_slLf (e2.look hr1) fun r3 H3 nr3 e3 h3 => ?_
    reads_via
    refine v_addL (e3.look h2) h3 (by simp [tv_len]; omega) fun r4 H4 nr4 e4 h4' => ?_
    reads_via
    have e : (tv ps).take o1 ++ (tv ps).drop (o1 + 1) = tv (ps.take o1 ++ ps.drop (o1 + 1)) := by unfold tv; simp
    rw [e] at h4'
    have hj := join_tx (ws := ps.take o1 ++ ps.drop (o1 + 1)) (fun w hw => (List.mem_append.mp hw).elim (fun z => hpt w (List.mem_of_mem_take z)) fun z => hpt w (List.mem_of_mem_drop z)) (by simp; omega)
    exact v_joinTv (.inr h4') hj.2 (k _ _ hj.1 (((e1.trans e2).trans e3).trans e4))
  reads_via
  refine br_d (fun c10 => ?_) (fun c10 => ?_)
  · reads_via
    refine v_slLn hr1 fun r2 H2 nr2 e2 h2 => ?_
    reads_via
    refine v_slLf (e2.look hr1) fun r3 H3 nr3 e3 h3 => ?_
    reads_via
    refine v_addL (e3.look h2) h3 (by simp [tv_len]; omega) fun r4 H4 nr4 e4 h4' => ?_
    reads_via
    have e : (tv ps).take o1 ++ (tv ps).drop o2 = tv (ps.take o1 ++ ps.drop o2) := by unfold tv; simp
    rw [e] at h4'
    have hj := join_tx (ws := ps.take o1 ++ ps.drop o2) (fun w hw => (List.mem_append.mp hw).elim (fun z => hpt w (List.mem_of_mem_take z)) fun z => hpt w (List.mem_of_mem_drop z)) (by simp; omega)
    exact v_joinTv (.inr h4') hj.2 (k _ _ hj.1 (((e1.trans e2).trans e3).trans e4))
  reads_via
  refine br_d (fun c11 => ?_) (fun c11 => ?_)
  · reads_via
    exact k2 _ ⟨by simp, by simp⟩
  · reads_via
    exact k2 _ (hx.mono (by decide))
set_option maxHeartbeats 4000000 in
theorem ok__law_four {P : Program} {w : World} {K : PySem.W.Frag} {mg : Str → Option Value} {base : Heap} {c : Ad} {f : Addr} {fd : FuncData} (F : Fun K "_law_four" "_law_four" s__law_four f fd) (T : Txt K mg c) (F__law_word : Fn P w K mg base "_law_word" 2 ["_law_menu", "_law_place", "_law_number", "_law_second"] [] (sp__law_word c)) :
    FnOk P w K mg base (L2N.CX P w) 3 f fd ["_law_menu", "_law_nums"] (sp__law_four c) := by
  refine GG.Fun.okN F sc__law_four (fun vs H Q E h => h.1) (fun cdv ar ou sh H vs Q E hr h => ?_)
  obtain ⟨_, p, q, rfl, hM, hN, k⟩ := h
  have tk := L2N.takes_of (X := cxOf (L2N.CX P w) P w K mg base ["_law_menu", "_law_nums", "_law_words", "_law_k", "_law_word_here"] "_law_four" (defScope s__law_four) f cdv ar ou sh H E) rfl rfl rfl rfl
  refine ⟨_, (pss_cons (ps_asg (pe_lst pa_nil) (pg_name (i := 2) sc__law_four.nd rfl (Or.inl rfl)))
      (pss_cons (ps_for (passes_of rfl) rfl (pi_range1 (by rfl) T.b_range (pa_cons pe_int pa_nil)) (pg_name (i := 3) sc__law_four.nd rfl (Or.inl rfl))
      (pss_cons (ps_asg (pe_fn F__law_word (hr.mono (by decide)) (ps_of tk) (pa_cons (pv 0) (pa_cons (pv 3) (pa_cons (pe_ix (u_ix K) (pv 1) (pv 3) (fun _ _ => rfl)) (pa_cons (pe_ix (u_ix K) (pv 1) (pe_op (u_add K) pe_int (pv 3)) (fun _ _ => rfl)) pa_nil))))) (pg_name (i := 4) sc__law_four.nd rfl (Or.inl rfl)))
      (pss_cons (ps_if (pt_cmpR (u_eq K hr.units) (pe_op u_mod (pe_ix (u_ix K) (pv 1) pe_int (fun _ _ => rfl)) pe_int) pe_int (nomark _))
      (pss_one (ps_asg (pe_ix (u_ix K) (pe_ix (u_ix K) (pv 0) (pv 3) (fun _ _ => rfl)) (pe_op u_mod (pe_op u_fdiv (pe_ix (u_ix K) (pv 1) (pv 3) (fun _ _ => rfl)) pe_int) pe_int) (fun _ _ => rfl)) (pg_name (i := 4) sc__law_four.nd rfl (Or.inl rfl))))
      pss_nil)
      (pss_one (ps_expr (pe_bmK K (pe_bm PySem.F.plainAttrs_list PySem.F.slot_list_append PySem.F.type_list_append m_append (pv 2) (pa_cons (pv 4) pa_nil))))))))
      (pss_one (ps_ret (pv 2))))), ?_⟩
  try dsimp only [L2H.cxH, cxOf, Cx.suite, Cx.tr, List.map_cons, List.map_nil]
  refine run_start (σ := [some (.ref p), some (.ref q), none, none, none]) rfl ?_
  clear tk
  reads_via
  rename_i r H0 nr e0 h0
  refine f_range0 (fun i σ H' => ∃ (ws : List (List Nat)) (v3 v4 : Option V), σ = [some (.ref p), some (.ref q), some (.ref r), v3, v4] ∧ Ext H H' ∧ H' r = some (.lst (tv ws)) ∧ ws.length = i ∧ ∀ w ∈ ws, Tx 60 w) ⟨[], none, none, rfl, e0, h0, rfl, by simp⟩ ?_ ?_
  rotate_left
  · rintro σ H' ⟨ws, v3, v4, rfl, e, hr, hl, hw⟩
    reads_via
    exact k r ws H' nr e hr hl hw
  clear h0 e0
  rintro i σ H1 hi ⟨ws, v3, v4, rfl, e1, hr, hl, hw⟩
  have hi4 : i < 4 := hi
  have hM1 := hM.ext e1
  have hN1 := hN.ext e1
  obtain ⟨xs, a, hp, hxa, ha⟩ := hM1.at hi4
  obtain ⟨hl3, hl4⟩ := mn_len i hi4
  reads_via
  refine v_num hN1 (by omega) (by omega) fun n1 hn1 => ?_
  reads_via
  refine v_num hN1 (by omega) (by omega) fun n2 hn2 => ?_
  reads_via
  refine ⟨rfl, p, i, n1, n2, rfl, hM1, hi4, fun w H2 htx e2 => ?_⟩
  have hN2 := hN1.ext e2
  have hr2 := e2.look hr
  have hp2 := e2.look hp
  have ha2 := e2.look ha
  clear hM1 hN1 hr hp ha
  o_reads
  refine run_cut (fun σ' H' => ∃ w, Tx 60 w ∧ σ' = [some (.ref p), some (.ref q), some (.ref r), some (.int (i : Int)), some (.str (S w))] ∧ H' = H2) (fun nx' hn' => ?_) ?_
  · reads_via
    refine v_num hN2 (by decide) (by decide) fun n3 hn3 => ?_
    reads_via
    refine br_d (fun c1 => ?_) (fun c1 => ?_)
    · reads_via
      refine v_ixTn hp2 hxa ?_
      reads_via
      refine v_num hN2 (by omega) (by omega) fun n4 hn4 => ?_
      reads_via
      refine v_fdiv (cd_small (by decide) (by decide)) ?_
      reads_via
      obtain ⟨z, hz⟩ : ∃ z : Nat, ((n4 : Int).fdiv 16) % 3 = (z : Int) := ⟨_, (Int.toNat_of_nonneg (Int.emod_nonneg _ (by decide))).symm⟩
      have hz3 : z < (mn i).length := by have := Int.emod_lt_of_pos ((n4 : Int).fdiv 16) (show (0 : Int) < 3 by decide); omega
      rw [hz]
      refine v_ixTn ha2 (tv_at hz3) ?_
      reads_via
      exact hn' _ _ ⟨_, (mn_tx (getD_mem hz3)).1.mono (by decide), rfl, rfl⟩
    · reads_via
      exact hn' _ _ ⟨w, htx, rfl, rfl⟩
  rintro σ' H' ⟨w, htx, rfl, rfl⟩
  reads_via
  refine v_append hr2 (by rw [tv_len]; omega) fun H3 b3 h3 => ?_
  reads_via
  refine ⟨ws ++ [w], _, _, rfl, b3.ext (e1.trans e2) nr, by rw [h3]; simp [tv], by simp [hl], fun x hx => ?_⟩
  rcases List.mem_append.mp hx with z | z
  · exact hw x z
  · rw [List.mem_singleton.mp z]; exact htx
set_option maxHeartbeats 1000000 in
theorem ok_Policy_read {P : Program} {w : World} {K : PySem.W.Frag} {mg : Str → Option Value} {base : Heap} {c : Ad} {f : Addr} {fd : FuncData} (F : Fun K "read" "Policy.read" s_Policy_read f fd) (T : Txt K mg c) (F_wrong_word : Fn P w K mg base "wrong_word" 1 ["words"] [] (sp_wrong_word c)) (M_Policy : Mc P w K mg base "Policy" c.Policy 2 ["self", "order", "place", "evict", "fill"] [] (sp_Policy___init__ c)) :
    FnOk P w K mg base (L2N.CX P w) 4 f fd ["cls", "text"] (sp_Policy_read c) := by
  refine GG.Fun.okN F sc_Policy_read (fun vs H Q E h => h.1) (fun cdv ar ou sh H vs Q E hr h => ?_)
  obtain ⟨_, l, rfl, hx, kQ, kE⟩ := h
  have hl := hx.2
  have hO := T.o_Policy
  have hcl := T.o_Policy.cl
  have n_order := T.na_Policy_order
  have n_place := T.na_Policy_place
  have n_evict := T.na_Policy_evict
  have n_fill := T.na_Policy_fill
  have n_all_words := T.na_Policy_all_words
  have tk := L2N.takes_of (X := cxOf (L2N.CX P w) P w K mg base ["cls", "text", "words", "order", "place", "evict", "fill"] "Policy.read" (defScope s_Policy_read) f cdv ar ou sh H E) rfl rfl rfl rfl
  refine ⟨_, (pss_cons (ps_asg (pe_bmK K (pe_bm PySem.F.plainAttrs_str PySem.F.slot_str_split PySem.F.type_str_split m_split (pv 1) (pa_cons pe_str pa_nil))) (pg_name (i := 2) sc_Policy_read.nd rfl (Or.inl rfl)))
      (pss_cons (ps_if (PW.pt (pw_or (pt_cmpR (u_ne K hr.units) (pe_callB (c_len K) (by rfl) T.b_len (by decide +kernel) (pa_cons (pv 2) pa_nil)) pe_int (nomark _)) (pw_or1 (pt_cmpR u_notN (pe_fn F_wrong_word (hr.mono (by decide)) (ps_of tk) (pa_cons (pv 2) pa_nil)) pe_non (nomark _)))))
      (pss_one (ps_raiseErr T.e_BadPolicy hr tk (pa_cons (pv 1) pa_nil)))
      pss_nil)
      (pss_cons (ps_asg (pv 2) (pg_unlK K (n := 4) (by rfl) (pgs_cons (pg_name (i := 3) sc_Policy_read.nd rfl (Or.inl rfl)) (pgs_cons (pg_name (i := 4) sc_Policy_read.nd rfl (Or.inl rfl)) (pgs_cons (pg_name (i := 5) sc_Policy_read.nd rfl (Or.inl rfl)) (pgs_cons (pg_name (i := 6) sc_Policy_read.nd rfl (Or.inl rfl)) pgs_nil))))))
      (pss_one (ps_ret (pe_mkL 0 M_Policy (hr.mono (by decide)) (ps_of tk) (pa_cons (pv 3) (pa_cons (pv 4) (pa_cons (pv 5) (pa_cons (pv 6) pa_nil)))))))))), ?_⟩
  try dsimp only [L2H.cxH, cxOf, Cx.suite, Cx.tr, List.map_cons, List.map_nil]
  refine run_start (σ := [some (.ref c.Policy), some (.str (S l)), none, none, none, none, none]) rfl ?_
  clear tk
  rw [s_32]
  reads_via
  refine v_split (by decide) (by omega) fun q H1 nq e1 hq => ?_
  have hq' : H1 q = some (.lst (tv (parts 32 l))) := hq
  reads_via
  try simp only [List.length_map]
  try simp only [tv_len]
  generalize hp : parts 32 l = ws at *
  clear hq
  refine br_d (fun c1 => ?_) (fun c1 => ?_)
  rotate_left
  · reads_via
    refine v_raise fun d H9 nd e9 h9 => ?_
    exact kE (fun z => c1 (by rw [z.1]; rfl)) d H9 (e1.trans e9) h9
  have h4 : ws.length = 4 := by omega
  reads_via
  refine ⟨rfl, q, ws, rfl, .inr hq', h4, fun i H2 hf e2 => ?_, fun hok H2 e2 => ?_⟩
  · reads_via
    refine v_raise fun d H9 nd e9 h9 => ?_
    exact kE (fw_no hf) d H9 ((e1.trans e2).trans e9) h9
  · reads_via
    have hq2 := e2.look hq'
    match ws, h4 with
    | [w0, w1, w2, w3], _ =>
      refine g_unl hq2 rfl ?_
      unfold tv
      simp only [List.map_cons, List.map_nil]
      reads_via
      refine mk_pol (fun _ b H3 nb e3 hb => kQ hok b H3 ((e1.trans e2).trans e3) hb) fun i hf => absurd hok (fw_no hf)
set_option maxHeartbeats 1000000 in
theorem ok_all_policies {P : Program} {w : World} {K : PySem.W.Frag} {mg : Str → Option Value} {base : Heap} {c : Ad} {f : Addr} {fd : FuncData} (F : Fun K "all_policies" "all_policies" s_all_policies f fd) (T : Txt K mg c) (M_Policy : Mc P w K mg base "Policy" c.Policy 2 ["self", "order", "place", "evict", "fill"] [] (sp_Policy___init__ c)) :
    GFn P w K mg base 4 f fd [] (sp_all_policies c) := by
  refine GG.Fun.okG F sc_all_policies (fun vs H Q E h => h.1) (fun cdv ar ou sh H vs Q E pn hr h => ?_)
  obtain ⟨_, rfl, k⟩ := h
  refine ⟨_, (gss_cons (L2.gs_for owns_gcx rfl (pi_tupK K (pi_tup (pe_ccon rfl T.g_Policy T.cc_Policy_ORDERS))) (pg_name (i := 0) sc_all_policies.nd rfl (Or.inl rfl))
      (gss_cons (L2.gs_for owns_gcx rfl (pi_tupK K (pi_tup (pe_ccon rfl T.g_Policy T.cc_Policy_PLACES))) (pg_name (i := 1) sc_all_policies.nd rfl (Or.inl rfl))
      (gss_cons (L2.gs_for owns_gcx rfl (pi_tupK K (pi_tup (pe_ccon rfl T.g_Policy T.cc_Policy_EVICTS))) (pg_name (i := 2) sc_all_policies.nd rfl (Or.inl rfl))
      (gss_cons (L2.gs_for owns_gcx rfl (pi_tupK K (pi_tup (pe_ccon rfl T.g_Policy T.cc_Policy_FILLS))) (pg_name (i := 3) sc_all_policies.nd rfl (Or.inl rfl))
      (gss_cons (gs_yield (pe_mk M_Policy (hr.mono (by decide)) ps0 (pa_cons (pv 0) (pa_cons (pv 1) (pa_cons (pv 2) (pa_cons (pv 3) pa_nil))))))
      gss_nil))
      gss_nil))
      gss_nil))
      gss_nil))
      gss_nil), ?_⟩
  refine gf_tup (xs := tv mO) (fun i ys σ H' => ∃ v0 v1 v2 v3, σ = [v0, v1, v2, v3] ∧ Ext H H' ∧ PolsN c H' ys (27 * i)) ⟨none, none, none, none, rfl, Ext.rfl, .nil⟩ (fun H => T.kt_ORDERS.sq) ?_ ?_
  rotate_left
  · rintro ys σ H' ⟨v0, v1, v2, v3, rfl, e, h⟩
    exact k ys H' e h
  rintro i0 x ys σ H1 hx ⟨v0, v1, v2, v3, rfl, e1, h1⟩
  have hi0 : i0 < 4 := by have := (List.getElem?_eq_some_iff.mp hx).1; rw [tv_len] at this; exact this
  rw [tv_at (show i0 < mO.length from hi0)] at hx
  cases hx
  reads_via
  refine gf_tup (xs := tv mP) (fun i ys σ H' => ∃ v1 v2 v3, σ = [some (.str (S (mO.getD i0 []))), v1, v2, v3] ∧ Ext H H' ∧ PolsN c H' ys (27 * i0 + 9 * i)) ⟨v1, v2, v3, rfl, e1, h1⟩ (fun H => T.kt_PLACES.sq) ?_ ?_
  rotate_left
  · rintro ys σ H' ⟨v1, v2, v3, rfl, e, h⟩
    exact ⟨_, _, _, _, rfl, e, h⟩
  clear h1 e1
  rintro i1 x ys σ H1 hx ⟨v1, v2, v3, rfl, e1, h1⟩
  have hi1 : i1 < 3 := by have := (List.getElem?_eq_some_iff.mp hx).1; rw [tv_len] at this; exact this
  rw [tv_at (show i1 < mP.length from hi1)] at hx
  cases hx
  reads_via
  refine gf_tup (xs := tv mE) (fun i ys σ H' => ∃ v2 v3, σ = [some (.str (S (mO.getD i0 []))), some (.str (S (mP.getD i1 []))), v2, v3] ∧ Ext H H' ∧ PolsN c H' ys (27 * i0 + 9 * i1 + 3 * i)) ⟨v2, v3, rfl, e1, h1⟩ (fun H => T.kt_EVICTS.sq) ?_ ?_
  rotate_left
  · rintro ys σ H' ⟨v2, v3, rfl, e, h⟩
    exact ⟨_, _, _, rfl, e, h⟩
  clear h1 e1
  rintro i2 x ys σ H1 hx ⟨v2, v3, rfl, e1, h1⟩
  have hi2 : i2 < 3 := by have := (List.getElem?_eq_some_iff.mp hx).1; rw [tv_len] at this; exact this
  rw [tv_at (show i2 < mE.length from hi2)] at hx
  cases hx
  reads_via
  refine gf_tup (xs := tv mF) (fun i ys σ H' => ∃ v3, σ = [some (.str (S (mO.getD i0 []))), some (.str (S (mP.getD i1 []))), some (.str (S (mE.getD i2 []))), v3] ∧ Ext H H' ∧ PolsN c H' ys (27 * i0 + 9 * i1 + 3 * i2 + i)) ⟨v3, rfl, e1, h1⟩ (fun H => T.kt_FILLS.sq) ?_ ?_
  rotate_left
  · rintro ys σ H' ⟨v3, rfl, e, h⟩
    exact ⟨_, _, rfl, e, h⟩
  clear h1 e1
  rintro i3 x ys σ H1 hx ⟨v3, rfl, e1, h1⟩
  have hi3 : i3 < 3 := by have := (List.getElem?_eq_some_iff.mp hx).1; rw [tv_len] at this; exact this
  rw [tv_at (show i3 < mF.length from hi3)] at hx
  cases hx
  reads_via
  have hlen : ys.length < 108 := by
    obtain ⟨bs, rfl, h2, _⟩ := id h1
    rw [List.length_map, h2]
    omega
  refine ⟨by rw [sizeLine_eq]; omega, ?_⟩
  have hr := row_at (a := i0) hi1 hi2 hi3
  reads_via
  refine mk_pol (fun _ b H2 nb e2 hb => ⟨_, rfl, e1.trans e2, (h1.ext e2).add (by rw [hr]; exact hb)⟩) fun i hf => absurd (by rw [← hr]; exact row_ok _ (by omega)) (fw_no hf)
set_option maxHeartbeats 1000000 in
theorem ok__law_is_policy {P : Program} {w : World} {K : PySem.W.Frag} {mg : Str → Option Value} {base : Heap} {c : Ad} {f : Addr} {fd : FuncData} (F : Fun K "_law_is_policy" "_law_is_policy" s__law_is_policy f fd) (T : Txt K mg c) (S_Policy___iter__ : Sm P w K mg base c.Policy "__iter__" 1 ["self"] (sp_Policy___iter__ c)) (Mt_Policy_text : Mt P w K mg base c.Policy "text" 1 ["self"] [] (sp_Policy_text c)) :
    FnOk P w K mg base (L2N.CX P w) 4 f fd ["_law_policy", "_law_words"] (sp__law_is_policy c) := by
  refine GG.Fun.okN F sc__law_is_policy (fun vs H Q E h => h.1) (fun cdv ar ou sh H vs Q E hr h => ?_)
  obtain ⟨_, b, a, ws, rfl, ⟨dx, u, hb, hu, hok⟩, hw, k⟩ := h
  have hO := T.o_Policy
  have hcl := T.o_Policy.cl
  have n_order := T.na_Policy_order
  have n_place := T.na_Policy_place
  have n_evict := T.na_Policy_evict
  have n_fill := T.na_Policy_fill
  have n_all_words := T.na_Policy_all_words
  have tk := L2N.takes_of (X := cxOf (L2N.CX P w) P w K mg base ["_law_policy", "_law_words"] "_law_is_policy" (defScope s__law_is_policy) f cdv ar ou sh H E) rfl rfl rfl rfl
  refine ⟨_, (pss_cons (ps_if (pt_not (pt_tru K (pe_callB (c_isi K) (by rfl) T.b_isinstance (by decide +kernel) (pa_cons (pv 0) (pa_cons (pe_glob (v := .ref c.Policy) rfl T.g_Policy rfl) pa_nil))) (by intro _; rfl)))
      (pss_one (ps_ret pe_bl))
      pss_nil)
      (pss_cons (ps_if (PW.pt (pw_or (pt_cmpR (u_ne K hr.units) (pe_fldK K (pe_fld (pv 0) rfl)) (pe_ix (u_ix K) (pv 1) pe_int (fun _ _ => rfl)) (nomark _)) (pw_or1 (pt_cmpR (u_ne K hr.units) (pe_fldK K (pe_fld (pv 0) rfl)) (pe_ix (u_ix K) (pv 1) pe_int (fun _ _ => rfl)) (nomark _)))))
      (pss_one (ps_ret pe_bl))
      pss_nil)
      (pss_cons (ps_if (PW.pt (pw_or (pt_cmpR (u_ne K hr.units) (pe_fldK K (pe_fld (pv 0) rfl)) (pe_ix (u_ix K) (pv 1) pe_int (fun _ _ => rfl)) (nomark _)) (pw_or1 (pt_cmpR (u_ne K hr.units) (pe_fldK K (pe_fld (pv 0) rfl)) (pe_ix (u_ix K) (pv 1) pe_int (fun _ _ => rfl)) (nomark _)))))
      (pss_one (ps_ret pe_bl))
      pss_nil)
      (pss_one (ps_ret (pe_and (pe_cmpR (u_eq K hr.units) (pe_callTy (c_lsOwn0 K T.nl_Policy T.nh_Policy S_Policy___iter__ (hr.mono (by decide)) rfl) (by rfl) T.b_list (by decide +kernel) (pa_cons (pv 0) pa_nil)) (pe_callTy (c_list K) (by rfl) T.b_list (by decide +kernel) (pa_cons (pv 1) pa_nil)) (nomark _)) (pe_one (pe_cmpR (u_eq K hr.units) (pe_mt0 Mt_Policy_text (hr.mono (by decide)) (ps_of tk) (pv 0)) (pe_bmK K (pe_bm PySem.F.plainAttrs_str PySem.F.slot_str_join PySem.F.type_str_join (m_join K) pe_str (pa_cons (pv 1) pa_nil))) (nomark _))))))))), ?_⟩
  try dsimp only [L2H.cxH, cxOf, Cx.suite, Cx.tr, List.map_cons, List.map_nil]
  refine run_start (σ := [some (.ref b), some (.ref a)]) rfl ?_
  clear tk
  rw [s_32]
  have hlt : ∀ w ∈ ws, ∀ d ∈ w, d < 128 := fun w hw => (ok_tx hok w hw).1.1
  have hsum := ok_sum hok
  have hl4 := hok.1
  have hPol : Pol c H b ws := ⟨dx, u, hb, hu, hok⟩
  o_reads
  refine run_cut (fun σ' H' => σ' = [some (.ref b), some (.ref a)] ∧ H' = H) (fun nx' hn' => ?_) ?_
  · reads_via
    exact hn' _ _ ⟨rfl, rfl⟩
  rintro σ' H' ⟨rfl, rfl⟩
  o_reads
  refine run_cut (fun σ' H1 => σ' = [some (.ref b), some (.ref a)] ∧ H1 = H') (fun nx' hn' => ?_) ?_
  · reads_via
    refine v_ixW (i := 0) hw (by omega) ?_
    reads_via
    refine v_ixW (i := 1) hw (by omega) ?_
    reads_via
    exact hn' _ _ ⟨rfl, rfl⟩
  rintro σ' H1 ⟨rfl, rfl⟩
  o_reads
  refine run_cut (fun σ' H2 => σ' = [some (.ref b), some (.ref a)] ∧ H2 = H1) (fun nx' hn' => ?_) ?_
  · reads_via
    refine v_ixW (i := 2) hw (by omega) ?_
    reads_via
    refine v_ixW (i := 3) hw (by omega) ?_
    reads_via
    exact hn' _ _ ⟨rfl, rfl⟩
  rintro σ' H2 ⟨rfl, rfl⟩
  reads_via
  refine v_lsOwn0 hb hu (by rw [tv_len]; omega) (fun H1 Q' e1 k' => ⟨rfl, b, dx, u, ws, rfl, e1.look hb, e1.look hu, k'⟩) fun q H3 nq e3 hq => ?_
  reads_via
  refine v_listW (hw.ext e3) fun q2 H4 nq2 e4 hq2 => ?_
  reads_via
  refine v_eqLv (e4.look hq) hq2 hlt hlt ?_
  reads_via
  refine ⟨rfl, b, ws, rfl, (hPol.ext e3).ext e4, ?_⟩
  reads_via
  refine v_joinTv ((hw.ext e3).ext e4) hsum ?_
  reads_via
  rw [decide_eq_true rfl]
  exact k _ (e3.trans e4)
set_option maxHeartbeats 4000000 in
theorem ok__law_made {P : Program} {w : World} {K : PySem.W.Frag} {mg : Str → Option Value} {base : Heap} {c : Ad} {f : Addr} {fd : FuncData} (F : Fun K "_law_made" "_law_made" s__law_made f fd) (T : Txt K mg c) (F__law_is_policy : Fn P w K mg base "_law_is_policy" 4 ["_law_policy", "_law_words"] [] (sp__law_is_policy c)) (M_Policy : Mc P w K mg base "Policy" c.Policy 2 ["self", "order", "place", "evict", "fill"] [] (sp_Policy___init__ c)) (Mt_Policy_text : Mt P w K mg base c.Policy "text" 1 ["self"] [] (sp_Policy_text c)) (CM_Policy_read : Cm P w K mg base c.Policy "read" 4 ["cls", "text"] (sp_Policy_read c)) :
    FnOk P w K mg base (L2N.CX P w) 5 f fd ["_law_menu", "_law_words"] (sp__law_made c) := by
  refine GG.Fun.okN F sc__law_made (fun vs H Q E h => h.1) (fun cdv ar ou sh H vs Q E hr h => ?_)
  obtain ⟨_, m, a, ws, rfl, hM, ha, hl, hw, k⟩ := h
  have hO := T.o_Policy
  have hcl := T.o_Policy.cl
  have n_order := T.na_Policy_order
  have n_place := T.na_Policy_place
  have n_evict := T.na_Policy_evict
  have n_fill := T.na_Policy_fill
  have n_all_words := T.na_Policy_all_words
  have tk := L2N.takes_of (X := cxOf (L2N.CX P w) P w K mg base ["_law_menu", "_law_words", "_law_wrong", "e", "_law_again", "_law_policy", "_law_k"] "_law_made" (defScope s__law_made) f cdv ar ou sh H E) rfl rfl rfl rfl
  refine ⟨_, (pss_cons (ps_lcV [6] (ps_setLc (i := 2) (own := [("_law_k", 6)])  (by rfl) sc__law_made.nd rfl rfl (sw_true rfl rfl rfl (by decide +kernel)) (pi_range1 (by rfl) T.b_range (pa_cons pe_int pa_nil)) (blkOk_by (own := [("_law_k", 6)]) (N := ["_law_menu", "_law_words", "_law_wrong", "e", "_law_again", "_law_policy", "_law_k"]) (sc := defScope s__law_made) (by decide +kernel)) (fun _ _ _ _ _ => (pg_name (i := 6) sc__law_made.nd rfl (Or.inl rfl))) (fun _ _ _ _ _ => (pts_one (pt_cmpR (u_notinX K) (pe_ix (u_ix K) (pv 1) (pv 6) (fun _ _ => rfl)) (pe_ix (u_ix K) (pv 0) (pv 6) (fun _ _ => rfl)) rfl))) (fun _ _ _ _ _ => (pe_ix (u_ix K) (pv 1) (pv 6) (fun _ _ => rfl)))))
      (pss_cons (ps_tryAs (i := 3) sc__law_made.nd rfl ⟨rfl, by decide, Or.inl T.g_GangError⟩ tk
      (fun W pn xe tk po => (pss_one (ps_asg (pe_mk M_Policy (hr.mono (by decide)) (ps_of tk) (pa_cons (pe_ix (u_ix K) (pv 1) pe_int (fun _ _ => rfl)) (pa_cons (pe_ix (u_ix K) (pv 1) pe_int (fun _ _ => rfl)) (pa_cons (pe_ix (u_ix K) (pv 1) pe_int (fun _ _ => rfl)) (pa_cons (pe_ix (u_ix K) (pv 1) pe_int (fun _ _ => rfl)) pa_nil))))) (pg_name (i := 5) sc__law_made.nd rfl (Or.inl rfl)))))
      (fun a oe cls d pn hz hf => (pss_cons (ps_if (PW.pt (pw_or (pt_cmpR (u_eq K hr.units) (pv 2) (pe_lst pa_nil) (nomark _)) (pw_or (pt_not (pt_tru K (pe_callB (call_isX K mg hz.zc hf) (by rfl) T.b_isinstance (by decide +kernel) (pa_cons (pv 3) (pa_cons (pe_glob (v := .ref c.BadPolicy) rfl T.g_BadPolicy rfl) pa_nil))) (by intro _; rfl))) (pw_or1 (pt_not (pt_tru K (pe_callB (call_isX K mg hz.zc hf) (by rfl) T.b_isinstance (by decide +kernel) (pa_cons (pv 3) (pa_cons (pe_bltn (v := .ty "ValueError") rfl T.b_ValueError (by decide +kernel) rfl) pa_nil))) (by intro _; rfl)))))))
      (pss_one (ps_ret pe_bl))
      pss_nil)
      (pss_cons (ps_if (PW.pt (pw_or (pt_tru K (pe_callB (call_isX K mg hz.zc hf) (by rfl) T.b_isinstance (by decide +kernel) (pa_cons (pv 3) (pa_cons (pe_glob (v := .ref c.BadName) rfl T.g_BadName rfl) pa_nil))) (by intro _; rfl)) (pw_or1 (pt_tru K (pe_callB (call_isX K mg hz.zc hf) (by rfl) T.b_isinstance (by decide +kernel) (pa_cons (pv 3) (pa_cons (pe_glob (v := .ref c.BadEvent) rfl T.g_BadEvent rfl) pa_nil))) (by intro _; rfl)))))
      (pss_one (ps_ret pe_bl))
      pss_nil)
      (pss_one (ps_ret (pe_and (pe_callB (c_isi K) (by rfl) T.b_isinstance (by decide +kernel) (pa_cons (pe_subj K mg hz.zc hf (pv 3)) (pa_cons (pe_bltn (v := .ty "str") rfl T.b_str (by decide +kernel) rfl) pa_nil))) (pe_one (pe_cmpR (u_eq K hr.units) (pe_subj K mg hz.zc hf (pv 3)) (pe_ix (u_ix K) (pv 2) pe_int (fun _ _ => rfl)) (nomark _))))))))))
      (pss_cons (ps_if (PW.pt (pw_or (pt_cmpR (u_ne K hr.units) (pv 2) (pe_lst pa_nil) (nomark _)) (pw_or1 (pt_not (pt_tru K (pe_fn F__law_is_policy (hr.mono (by decide)) (ps_of tk) (pa_cons (pv 5) (pa_cons (pv 1) pa_nil))) (by intro _; rfl))))))
      (pss_one (ps_ret pe_bl))
      pss_nil)
      (pss_cons (ps_asg (pe_cm CM_Policy_read (hr.mono (by decide)) (ps_of tk) (pe_glob (v := .ref c.Policy) rfl T.g_Policy rfl) (pa_cons (pe_mt0 Mt_Policy_text (hr.mono (by decide)) (ps_of tk) (pv 5)) pa_nil)) (pg_name (i := 4) sc__law_made.nd rfl (Or.inl rfl)))
      (pss_one (ps_ret (pe_and (pe_fn F__law_is_policy (hr.mono (by decide)) (ps_of tk) (pa_cons (pv 4) (pa_cons (pv 1) pa_nil))) (pe_one (pe_fn F__law_is_policy (hr.mono (by decide)) (ps_of tk) (pa_cons (pv 5) (pa_cons (pv 1) pa_nil))))))))))), ?_⟩
  try dsimp only [L2H.cxH, cxOf, Cx.suite, Cx.tr, List.map_cons, List.map_nil]
  refine run_start (σ := [some (.ref m), some (.ref a), none, none, none, none, none]) rfl ?_
  clear tk
  have hlt : ∀ i, ∀ w ∈ wrs ws i, ∀ d ∈ w, d < 128 := fun i w hx => by
    unfold wrs at hx
    obtain ⟨j, hj, rfl⟩ := List.mem_map.mp hx
    by_cases z : j < ws.length
    · exact (hw _ (getD_mem z)).1
    · rw [List.getD_eq_getElem?_getD, List.getElem?_eq_none (by omega)]
      simp
  reads_via
  refine lcW walk_range (fun i acc H1 => Ext H H1 ∧ acc = tv (wrs ws i)) (fun H1 e => ⟨e, rfl⟩) (fun _ _ _ _ _ => trivial) ?_ ?_
  · rintro i x D acc H1 H1' hD hi ⟨e1, hacc⟩ ⟨rfl, rfl⟩ h1 hle
    have hi4 : i < 4 := hi
    obtain ⟨xs, t, hp, hxa, ht⟩ := (hM.ext e1).at hi4
    dsimp only
    simp only [Int.zero_add]
    reads_via
    refine v_ixLn (e1.look ha) (tv_at (by omega)) ?_
    reads_via
    refine v_ixTn hp hxa ?_
    reads_via
    refine v_notinTv (SqT.of ht) ?_
    reads_via
    refine br_d (fun c1 => ?_) (fun c1 => ?_)
    · refine ⟨acc, h1, by omega, e1, ?_⟩
      unfold wrs
      rw [List.range_succ, List.filter_append, hacc]
      simp [c1, wrs, -List.getD_eq_getElem?_getD]
    · reads_via
      refine v_ixLn (e1.look ha) (tv_at (by omega)) ?_
      refine v_accK h1 (by omega) (by omega) fun H2 b2 => ⟨b2.ext e1 hD, ?_⟩
      unfold wrs
      rw [List.range_succ, List.filter_append, hacc]
      simp [c1, wrs, tv, -List.getD_eq_getElem?_getD]
  rintro D acc H1 nD h1 hle ⟨e1, rfl⟩
  have h1' : H1 D = some (.lst (tv (wrs ws 4))) := h1
  clear h1 hle
  have ha1 := e1.look ha
  have hM1 := hM.ext e1
  match ws, hl with
  | [w0, w1, w2, w3], _ =>
  have hwt := hlt 4
  clear hlt
  generalize hwr : wrs [w0, w1, w2, w3] 4 = wr at *
  unfold tv at ha1
  simp only [List.map_cons, List.map_nil] at ha1
  reads_via
  refine mk_pol (fun hok b H2 nb e2 hb => ?_) (fun i hf d H2 e2 hd => ?_)
  · have hz := (wrs_ok hok).symm.trans hwr
    subst hz
    have hts := ok_join_tx hok
    have hpa := ok_parts hok
    obtain ⟨dx9, u9, hins9, _⟩ := id hb
    reads_via
    rename_i q3 H3 n3 e3 h3
    refine v_neLv (vs := []) (e3.look (e2.look h1')) h3 (by simp) (by simp) ?_
    reads_via
    refine ⟨rfl, b, a, _, rfl, hb.ext e3, .inr (e3.look (e2.look (e1.look ha))), fun H4 e4 => ?_⟩
    reads_via
    refine ⟨rfl, b, _, rfl, (hb.ext e3).ext e4, ?_⟩
    reads_via
    refine ⟨rfl, _, rfl, hts.mono (by decide), fun _ b2 H5 e5 hb2 => ?_, fun hno => absurd (by rw [hpa]; exact hok) hno⟩
    rw [hpa] at hb2
    have ha5 : H5 a = some (.lst (tv [w0, w1, w2, w3])) := e5.look (e4.look (e3.look (e2.look (e1.look ha))))
    reads_via
    refine ⟨rfl, b2, a, _, rfl, hb2, .inr ha5, fun H6 e6 => ?_⟩
    reads_via
    refine ⟨rfl, b, a, _, rfl, ((((hb.ext e3).ext e4).ext e5).ext e6), .inr (e6.look ha5), fun H7 e7 => ?_⟩
    reads_via
    exact k _ ((((((e1.trans e2).trans e3).trans e4).trans e5).trans e6).trans e7)
  · obtain ⟨r, hr⟩ := wrs_no hf
    have hz := hr.symm.trans hwr
    subst hz
    have h12 := e2.look h1'
    refine w_as T.x_BadPolicy_GangError fun ae oe pn na => ?_
    reads_via
    rename_i q3 H3 n3 e3 h3
    refine v_eqLv (vs := []) (e3.look h12) h3 hwt (by simp) ?_
    rw [decide_eq_false (by simp)]
    have h13 := e3.look h12
    unfold tv at h13
    simp only [List.map_cons] at h13
    clear h12 h1'
    reads_via
    refine v_isX T.e_BadPolicy (by got_up) T.k_BadPolicy_BadPolicy (.own _) ?_
    reads_via
    refine v_isX T.e_BadPolicy (by got_up) T.k_BadPolicy_ValueError (.ty _) ?_
    reads_via
    refine v_isX T.e_BadPolicy (by got_up) T.k_BadPolicy_BadName (.own _) ?_
    reads_via
    refine v_isX T.e_BadPolicy (by got_up) T.k_BadPolicy_BadEvent (.own _) ?_
    reads_via
    refine v_subj T.e_BadPolicy (by got_up) ?_
    reads_via
    refine v_subj T.e_BadPolicy (by got_up) ?_
    reads_via
    rw [decide_eq_true rfl]
    exact k _ ((e1.trans e2).trans e3)
set_option maxHeartbeats 4000000 in
theorem ok__law_read {P : Program} {w : World} {K : PySem.W.Frag} {mg : Str → Option Value} {base : Heap} {c : Ad} {f : Addr} {fd : FuncData} (F : Fun K "_law_read" "_law_read" s__law_read f fd) (T : Txt K mg c) (F__law_is_policy : Fn P w K mg base "_law_is_policy" 4 ["_law_policy", "_law_words"] [] (sp__law_is_policy c)) (CM_Policy_read : Cm P w K mg base c.Policy "read" 4 ["cls", "text"] (sp_Policy_read c)) :
    FnOk P w K mg base (L2N.CX P w) 5 f fd ["_law_rows", "_law_text_here"] (sp__law_read c) := by
  refine GG.Fun.okN F sc__law_read (fun vs H Q E h => h.1) (fun cdv ar ou sh H vs Q E hr h => ?_)
  obtain ⟨_, rw, l, rfl, ⟨us, hrw, hul, hus⟩, hx, k⟩ := h
  have hO := T.o_Policy
  have hcl := T.o_Policy.cl
  have n_order := T.na_Policy_order
  have n_place := T.na_Policy_place
  have n_evict := T.na_Policy_evict
  have n_fill := T.na_Policy_fill
  have n_all_words := T.na_Policy_all_words
  have tk := L2N.takes_of (X := cxOf (L2N.CX P w) P w K mg base ["_law_rows", "_law_text_here", "_law_due", "e", "_law_policy", "_law_row"] "_law_read" (defScope s__law_read) f cdv ar ou sh H E) rfl rfl rfl rfl
  refine ⟨_, (pss_cons (ps_lcV [5] (ps_setLc (i := 2) (own := [("_law_row", 5)])  (by rfl) sc__law_read.nd rfl rfl (sw_true rfl rfl rfl (by decide +kernel)) (pi_listK K (pi_list (pv 0))) (blkOk_by (own := [("_law_row", 5)]) (N := ["_law_rows", "_law_text_here", "_law_due", "e", "_law_policy", "_law_row"]) (sc := defScope s__law_read) (by decide +kernel)) (fun _ _ _ _ _ => (pg_name (i := 5) sc__law_read.nd rfl (Or.inl rfl))) (fun _ _ _ _ _ => (pts_one (pt_cmpR (u_eq K hr.units) (pe_bmK K (pe_bm PySem.F.plainAttrs_str PySem.F.slot_str_join PySem.F.type_str_join (m_join K) pe_str (pa_cons (pv 5) pa_nil))) (pv 1) (nomark _)))) (fun _ _ _ _ _ => (pv 5))))
      (pss_cons (ps_tryAs (i := 3) sc__law_read.nd rfl ⟨rfl, by decide, Or.inl T.g_GangError⟩ tk
      (fun W pn xe tk po => (pss_one (ps_asg (pe_cm CM_Policy_read (hr.mono (by decide)) (ps_of tk) (pe_glob (v := .ref c.Policy) rfl T.g_Policy rfl) (pa_cons (pv 1) pa_nil)) (pg_name (i := 4) sc__law_read.nd rfl (Or.inl rfl)))))
      (fun a oe cls d pn hz hf => (pss_cons (ps_if (PW.pt (pw_or (pt_cmpR (u_ne K hr.units) (pv 2) (pe_lst pa_nil) (nomark _)) (pw_or (pt_not (pt_tru K (pe_callB (call_isX K mg hz.zc hf) (by rfl) T.b_isinstance (by decide +kernel) (pa_cons (pv 3) (pa_cons (pe_glob (v := .ref c.BadPolicy) rfl T.g_BadPolicy rfl) pa_nil))) (by intro _; rfl))) (pw_or1 (pt_not (pt_tru K (pe_callB (call_isX K mg hz.zc hf) (by rfl) T.b_isinstance (by decide +kernel) (pa_cons (pv 3) (pa_cons (pe_bltn (v := .ty "ValueError") rfl T.b_ValueError (by decide +kernel) rfl) pa_nil))) (by intro _; rfl)))))))
      (pss_one (ps_ret pe_bl))
      pss_nil)
      (pss_cons (ps_if (PW.pt (pw_or (pt_tru K (pe_callB (call_isX K mg hz.zc hf) (by rfl) T.b_isinstance (by decide +kernel) (pa_cons (pv 3) (pa_cons (pe_glob (v := .ref c.BadName) rfl T.g_BadName rfl) pa_nil))) (by intro _; rfl)) (pw_or1 (pt_tru K (pe_callB (call_isX K mg hz.zc hf) (by rfl) T.b_isinstance (by decide +kernel) (pa_cons (pv 3) (pa_cons (pe_glob (v := .ref c.BadEvent) rfl T.g_BadEvent rfl) pa_nil))) (by intro _; rfl)))))
      (pss_one (ps_ret pe_bl))
      pss_nil)
      (pss_one (ps_ret (pe_and (pe_callB (c_isi K) (by rfl) T.b_isinstance (by decide +kernel) (pa_cons (pe_subj K mg hz.zc hf (pv 3)) (pa_cons (pe_bltn (v := .ty "str") rfl T.b_str (by decide +kernel) rfl) pa_nil))) (pe_one (pe_cmpR (u_eq K hr.units) (pe_subj K mg hz.zc hf (pv 3)) (pv 1) (nomark _))))))))))
      (pss_one (ps_ret (pe_and (pe_cmpR (u_eq K hr.units) (pe_callB (c_len K) (by rfl) T.b_len (by decide +kernel) (pa_cons (pv 2) pa_nil)) pe_int (nomark _)) (pe_one (pe_fn F__law_is_policy (hr.mono (by decide)) (ps_of tk) (pa_cons (pv 4) (pa_cons (pe_ix (u_ix K) (pv 2) pe_int (fun _ _ => rfl)) pa_nil))))))))), ?_⟩
  try dsimp only [L2H.cxH, cxOf, Cx.suite, Cx.tr, List.map_cons, List.map_nil]
  refine run_start (σ := [some (.ref rw), some (.str (S l)), none, none, none, none]) rfl ?_
  clear tk
  rw [s_32]
  reads_via
  refine lcW (walk_list (xs := us.map V.ref)) (fun i acc H1 => Ext H H1 ∧ acc = ((List.range i).filter fun j => decide (GN.joinL [32] (row j) = l)).map fun j => V.ref (us.getD j 0)) (fun H1 e => ⟨e, rfl⟩) (fun i acc H1 hi h => SqL.of (h.1.look hrw)) ?_ ?_
  · rintro i x D acc H1 H1' hD hi ⟨e1, hacc⟩ ⟨rfl, hxi⟩ h1 hle
    rw [List.length_map] at hi
    obtain ⟨u, hu, rfl⟩ := map_at hxi
    have hu2 := e1.look (hus i u hu)
    have hgu : us.getD i 0 = u := by rw [List.getD_eq_getElem?_getD, hu]; rfl
    reads_via
    refine v_joinTv (.inl hu2) (ok_sum (row_ok i (by omega))) ?_
    reads_via
    refine br_d (fun c1 => ?_) (fun c1 => ?_)
    · reads_via
      refine v_accK h1 (by omega) (by omega) fun H2 b2 => ⟨b2.ext e1 hD, ?_⟩
      rw [List.range_succ, List.filter_append, hacc]
      simp [c1, hgu, -List.getD_eq_getElem?_getD]
    · refine ⟨acc, h1, by omega, e1, ?_⟩
      rw [List.range_succ, List.filter_append, hacc]
      simp [c1]
  rintro D acc H1 nD h1 hle ⟨e1, hacc⟩
  rw [List.length_map, hul] at hacc
  have hacc' : acc = (dueL l).map fun j => V.ref (us.getD j 0) := hacc
  rw [hacc'] at h1
  clear hacc hacc' hle
  reads_via
  refine ⟨rfl, l, rfl, hx, fun hok b H2 e2 hb => ?_, fun hno d H2 e2 hd => ?_⟩
  · obtain ⟨j, hj, hd, hr⟩ := due_ok hok
    rw [hd] at h1
    simp only [List.map_cons, List.map_nil] at h1
    have hu : us[j]? = some us[j] := List.getElem?_eq_getElem (by omega)
    have hgu : us.getD j 0 = us[j] := by rw [List.getD_eq_getElem?_getD, hu]; rfl
    have hut := e2.look (e1.look (hus j _ hu))
    rw [hgu] at h1
    reads_via
    refine ⟨rfl, b, _, _, rfl, hb, .inl (by rw [← hr]; exact hut), fun H3 e3 => ?_⟩
    reads_via
    exact k _ ((e1.trans e2).trans e3)
  · rw [due_no hno] at h1
    refine w_as T.x_BadPolicy_GangError fun ae oe pn na => ?_
    have h12 := e2.look h1
    reads_via
    rename_i q3 H3 n3 e3 h3
    refine v_neLv (ws := []) (vs := []) (e3.look h12) h3 (by simp) (by simp) ?_
    reads_via
    refine v_isX T.e_BadPolicy (by got_up) T.k_BadPolicy_BadPolicy (.own _) ?_
    reads_via
    refine v_isX T.e_BadPolicy (by got_up) T.k_BadPolicy_ValueError (.ty _) ?_
    reads_via
    refine v_isX T.e_BadPolicy (by got_up) T.k_BadPolicy_BadName (.own _) ?_
    reads_via
    refine v_isX T.e_BadPolicy (by got_up) T.k_BadPolicy_BadEvent (.own _) ?_
    reads_via
    refine v_subj T.e_BadPolicy (by got_up) ?_
    reads_via
    refine v_subj T.e_BadPolicy (by got_up) ?_
    reads_via
    rw [decide_eq_true rfl]
    exact k _ ((e1.trans e2).trans e3)
set_option maxHeartbeats 8000000 in
theorem ok__law_differences {P : Program} {w : World} {K : PySem.W.Frag} {mg : Str → Option Value} {base : Heap} {c : Ad} {f : Addr} {fd : FuncData} (F : Fun K "_law_differences" "_law_differences" s__law_differences f fd) (T : Txt K mg c) (F__law_is_policy : Fn P w K mg base "_law_is_policy" 4 ["_law_policy", "_law_words"] [] (sp__law_is_policy c)) (F__law_is_indexes : Fn P w K mg base "_law_is_indexes" 1 ["_law_answer", "_law_due"] [] (sp__law_is_indexes c)) (S_Policy___xor__ : Sm P w K mg base c.Policy "__xor__" 1 ["self", "other"] (sp_Policy___xor__ c)) (S_Policy___eq__ : Sm P w K mg base c.Policy "__eq__" 1 ["self", "other"] (sp_Policy___eq__ c)) (G_all_policies : Gn P w K mg base "all_policies" 4 (sp_all_policies c)) :
    FnOk P w K mg base (L2N.CX P w) 8 f fd ["_law_rows", "_law_at"] (sp__law_differences c) := by
  refine GG.Fun.okN F sc__law_differences (fun vs H Q E h => h.1) (fun cdv ar ou sh H vs Q E hr h => ?_)
  obtain ⟨_, rw, t, rfl, hR, ht, k⟩ := h
  have hO := T.o_Policy
  have hcl := T.o_Policy.cl
  have n_order := T.na_Policy_order
  have n_place := T.na_Policy_place
  have n_evict := T.na_Policy_evict
  have n_fill := T.na_Policy_fill
  have n_all_words := T.na_Policy_all_words
  have tk := L2N.takes_of (X := cxOf (L2N.CX P w) P w K mg base ["_law_rows", "_law_at", "_law_made_here", "_law_one", "_law_k", "_law_due", "_law_answer", "_law_j"] "_law_differences" (defScope s__law_differences) f cdv ar ou sh H E) rfl rfl rfl rfl
  refine ⟨_, (pss_cons (ps_asg (pe_lsG G_all_policies (hr.mono (by decide)) T.b_list) (pg_name (i := 2) sc__law_differences.nd rfl (Or.inl rfl)))
      (pss_cons (ps_if (pt_cmpR (u_ne K hr.units) (pe_callB (c_len K) (by rfl) T.b_len (by decide +kernel) (pa_cons (pv 2) pa_nil)) (pe_callB (c_len K) (by rfl) T.b_len (by decide +kernel) (pa_cons (pv 0) pa_nil)) (nomark _))
      (pss_one (ps_ret pe_bl))
      pss_nil)
      (pss_cons (ps_asg (pe_ix (u_ix K) (pv 2) (pv 1) (fun _ _ => rfl)) (pg_name (i := 3) sc__law_differences.nd rfl (Or.inl rfl)))
      (pss_cons (ps_for (passes_of rfl) rfl (pi_range1 (by rfl) T.b_range (pa_cons (pe_callB (c_len K) (by rfl) T.b_len (by decide +kernel) (pa_cons (pv 0) pa_nil)) pa_nil)) (pg_name (i := 4) sc__law_differences.nd rfl (Or.inr rfl))
      (pss_cons (ps_if (pt_not (pt_tru K (pe_fn F__law_is_policy (hr.mono (by decide)) (ps_of tk) (pa_cons (pe_ix (u_ix K) (pv 2) (pv 4) (fun _ _ => rfl)) (pa_cons (pe_ix (u_ix K) (pv 0) (pv 4) (fun _ _ => rfl)) pa_nil))) (by intro _; rfl)))
      (pss_one (ps_ret pe_bl))
      pss_nil)
      (pss_cons (ps_lcV [7] (ps_setLc (i := 5) (own := [("_law_j", 7)])  (by rfl) sc__law_differences.nd rfl rfl (sw_true rfl rfl rfl (by decide +kernel)) (pi_range1 (by rfl) T.b_range (pa_cons pe_int pa_nil)) (blkOk_by (own := [("_law_j", 7)]) (N := ["_law_rows", "_law_at", "_law_made_here", "_law_one", "_law_k", "_law_due", "_law_answer", "_law_j"]) (sc := defScope s__law_differences) (by decide +kernel)) (fun _ _ _ _ _ => (pg_name (i := 7) sc__law_differences.nd rfl (Or.inl rfl))) (fun _ _ _ _ _ => (pts_one (pt_cmpR (u_ne K hr.units) (pe_ix (u_ix K) (pe_ix (u_ix K) (pv 0) (pv 1) (fun _ _ => rfl)) (pv 7) (fun _ _ => rfl)) (pe_ix (u_ix K) (pe_ix (u_ix K) (pv 0) (pv 4) (fun _ _ => rfl)) (pv 7) (fun _ _ => rfl)) (nomark _)))) (fun _ _ _ _ _ => (pv 7))))
      (pss_cons (ps_asg (pe_opS (op_own S_Policy___xor__ (hr.mono (by decide)) (ps_of tk) T.sf_Policy) (pv 3) (pe_ix (u_ix K) (pv 2) (pv 4) (fun _ _ => rfl))) (pg_name (i := 6) sc__law_differences.nd rfl (Or.inl rfl)))
      (pss_cons (ps_if (PW.pt (pw_or (pt_not (pt_tru K (pe_fn F__law_is_indexes (hr.mono (by decide)) (ps_of tk) (pa_cons (pv 6) (pa_cons (pv 5) pa_nil))) (by intro _; rfl))) (pw_or1 (pt_cmpR (u_ne K hr.units) (pe_cmpS (op_ownEq S_Policy___eq__ (hr.mono (by decide)) (ps_of tk)) (pv 3) (pe_ix (u_ix K) (pv 2) (pv 4) (fun _ _ => rfl)) (nomark _)) (pe_cmpR (u_eq K hr.units) (pv 5) (pe_lst pa_nil) (nomark _)) (nomark _)))))
      (pss_one (ps_ret pe_bl))
      pss_nil)
      (pss_cons (ps_expr (pe_bmK K (pe_bm PySem.F.plainAttrs_list PySem.F.slot_list_append PySem.F.type_list_append m_append (pv 6) (pa_cons pe_int pa_nil))))
      (pss_cons (ps_if (pt_not (pt_tru K (pe_fn F__law_is_indexes (hr.mono (by decide)) (ps_of tk) (pa_cons (pe_opS (op_own S_Policy___xor__ (hr.mono (by decide)) (ps_of tk) T.sf_Policy) (pv 3) (pe_ix (u_ix K) (pv 2) (pv 4) (fun _ _ => rfl))) (pa_cons (pv 5) pa_nil))) (by intro _; rfl)))
      (pss_one (ps_ret pe_bl))
      pss_nil)
      (pss_one (ps_if (pt_not (pt_tru K (pe_fn F__law_is_indexes (hr.mono (by decide)) (ps_of tk) (pa_cons (pe_opS (op_own S_Policy___xor__ (hr.mono (by decide)) (ps_of tk) T.sf_Policy) (pe_ix (u_ix K) (pv 2) (pv 4) (fun _ _ => rfl)) (pv 3)) (pa_cons (pv 5) pa_nil))) (by intro _; rfl)))
      (pss_one (ps_ret pe_bl))
      pss_nil)))))))))
      (pss_one (ps_ret (pe_fn F__law_is_policy (hr.mono (by decide)) (ps_of tk) (pa_cons (pv 3) (pa_cons (pe_ix (u_ix K) (pv 0) (pv 1) (fun _ _ => rfl)) pa_nil))))))))), ?_⟩
  try dsimp only [L2H.cxH, cxOf, Cx.suite, Cx.tr, List.map_cons, List.map_nil]
  refine run_start (σ := [some (.ref rw), some (.int (t : Int)), none, none, none, none, none, none]) rfl ?_
  clear tk
  reads_via
  refine v_lsG fun Q' hQ' => ⟨rfl, rfl, fun out H1 e1 hp => hQ' out H1 fun mh nm => ?_⟩
  obtain ⟨bs, rfl, hbl, hbs⟩ := hp
  have e2 : Ext H1 (upd H1 mh (.lst (bs.map V.ref))) := Ext.new nm
  have hmh : upd H1 mh (.lst (bs.map V.ref)) mh = some (.lst (bs.map V.ref)) := upd_same
  generalize upd H1 mh (.lst (bs.map V.ref)) = H2 at *
  replace hbs : ∀ j b, bs[j]? = some b → Pol c H2 b (row j) := fun j b h => (hbs j b h).ext e2
  replace hR := hR.ext (e1.trans e2)
  have e12 := e1.trans e2
  obtain ⟨us, hrw, hul, hus⟩ := id hR
  have hbm : (bs.map V.ref).length = 108 := by simp [hbl]
  have hum : (us.map V.ref).length = 108 := by simp [hul]
  have gb : ∀ j, j < 108 → ∃ b, (bs.map V.ref)[j]? = some (.ref b) ∧ Pol c H2 b (row j) := fun j hj => ⟨bs[j]'(by omega), by rw [List.getElem?_map, List.getElem?_eq_getElem (by omega)]; rfl, hbs j _ (List.getElem?_eq_getElem (by omega))⟩
  have gu : ∀ j, j < 108 → ∃ u, (us.map V.ref)[j]? = some (.ref u) ∧ H2 u = some (.tup (tv (row j))) := fun j hj => ⟨us[j]'(by omega), by rw [List.getElem?_map, List.getElem?_eq_getElem (by omega)]; rfl, hus j _ (List.getElem?_eq_getElem (by omega))⟩
  obtain ⟨b0, hb0, hp0⟩ := gb t ht
  obtain ⟨u0, hu0, ht0⟩ := gu t ht
  clear hbs hus hbl hul hR e1 e2 nm
  generalize us.map V.ref = ul at *
  generalize bs.map V.ref = bl at *
  reads_via
  rw [hbm, hum]
  reads_via
  refine v_ixLn hmh hb0 ?_
  reads_via
  rw [hum]
  refine r_rng1 (by decide) (by decide) ?_
  refine f_range0 (fun i σ H' => ∃ (v4 v5 v6 : Option V), σ = [some (.ref rw), some (.int (t : Int)), some (.ref mh), some (.ref b0), v4, v5, v6, none] ∧ Ext H2 H') ⟨none, none, none, rfl, Ext.rfl⟩ ?_ ?_
  rotate_left
  · rintro σ H3 ⟨v4, v5, v6, rfl, e3⟩
    reads_via
    refine v_ixLn (e3.look hrw) hu0 ?_
    reads_via
    refine ⟨rfl, b0, u0, _, rfl, hp0.ext e3, .inl (e3.look ht0), fun H4 e4 => ?_⟩
    exact k _ ((e12.trans e3).trans e4)
  rintro i σ H3 hi ⟨v4, v5, v6, rfl, e3⟩
  have hi' : i < 108 := hi
  obtain ⟨b, hb, hpb⟩ := gb i hi'
  obtain ⟨u, hu, htu⟩ := gu i hi'
  have hmh3 := e3.look hmh
  have hrw3 := e3.look hrw
  reads_via
  refine v_ixLn hmh3 hb ?_
  reads_via
  refine v_ixLn hrw3 hu ?_
  reads_via
  refine ⟨rfl, b, u, _, rfl, hpb.ext e3, .inl (e3.look htu), fun H4 e4 => ?_⟩
  have e34 := e3.trans e4
  clear hmh3 hrw3
  reads_via
  refine lcW walk_range (fun i' acc H1 => Ext H4 H1 ∧ acc = (((List.range i').filter fun j => decide ((row t).getD j [] ≠ (row i).getD j [])).map fun (j : Nat) => (j : Int)).map V.int) (fun H1 e => ⟨e, rfl⟩) (fun _ _ _ _ _ => trivial) ?_ ?_
  · rintro j x D acc H5 H5' hD hj ⟨e5, hacc⟩ ⟨rfl, rfl⟩ h5 hle
    have hj4 : j < 4 := hj
    have e35 := e34.trans e5
    dsimp only
    simp only [Int.zero_add]
    reads_via
    refine v_ixLn (e35.look hrw) hu0 ?_
    reads_via
    refine v_ixTn (e35.look ht0) (tv_at hj4) ?_
    reads_via
    refine v_ixLn (e35.look hrw) hu ?_
    reads_via
    refine v_ixTn (e35.look htu) (tv_at hj4) ?_
    reads_via
    refine br_d (fun c1 => ?_) (fun c1 => ?_)
    · refine ⟨acc, h5, by omega, e5, ?_⟩
      rw [List.range_succ, List.filter_append, hacc]
      simp [c1, -List.getD_eq_getElem?_getD]
    · reads_via
      refine v_accK h5 (by omega) (by omega) fun H6 b6 => ⟨b6.ext e5 hD, ?_⟩
      rw [List.range_succ, List.filter_append, hacc]
      simp [c1, -List.getD_eq_getElem?_getD]
  rintro D acc H5 nD h5 hle ⟨e5, hacc⟩
  have hacc' : acc = (dif (row t) (row i)).map V.int := hacc
  rw [hacc'] at h5
  clear hacc hacc' hle acc
  have e35 := e34.trans e5
  clear e34 e5 nD e4 e3
  have hdl : (dif (row t) (row i)).length ≤ 4 := by
    unfold dif
    rw [List.length_map]
    exact Nat.le_trans (List.length_filter_le _ _) (by simp)
  reads_via
  refine v_ixLn (e35.look hmh) hb ?_
  reads_via
  refine v_own (hp0.ext e35).ins.choose_spec.choose_spec (hpb.ext e35).ins.choose_spec.choose_spec ⟨rfl, b0, b, _, _, rfl, hp0.ext e35, hpb.ext e35, fun q6 H6 nq6 e6 hq6 => ?_⟩
  have e36 := e35.trans e6
  have h56 := e6.look h5
  have dif_sym : dif (row i) (row t) = dif (row t) (row i) := by
    unfold dif
    congr 1
    exact List.filter_congr fun j _ => dec_congr ⟨fun z y => z y.symm, fun z y => z y.symm⟩
  have hdn := dif_nil (ws := row t) (vs := row i) rfl rfl
  o_reads
  refine run_cut (fun σ' H' => σ' = [some (.ref rw), some (.int (t : Int)), some (.ref mh), some (.ref b0), some (.int (i : Int)), some (.ref D), some (.ref q6), none] ∧ Ext H6 H') (fun nx' hn' => ?_) ?_
  · reads_via
    refine ⟨rfl, q6, D, _, rfl, hq6, h56, by omega, ?_⟩
    reads_via
    refine v_ixLn (e36.look hmh) hb ?_
    reads_via
    refine v_own (hp0.ext e36).ins.choose_spec.choose_spec (hpb.ext e36).ins.choose_spec.choose_spec ⟨rfl, b0, b, _, _, rfl, hp0.ext e36, hpb.ext e36, ?_⟩
    reads_via
    rename_i q7 H7 nq7 e7 hq7
    refine v_eqLI (ns := []) (e7.look h56) hq7 ?_
    reads_via
    rw [dec_congr hdn]
    reads_via
    exact hn' _ _ ⟨rfl, e7⟩
  rintro σ' H7 ⟨rfl, e7⟩
  have e37 := e36.trans e7
  have h57 := e7.look h56
  have hq67 := e7.look hq6
  reads_via
  refine v_append hq67 (by simp; omega) fun H8 b8 h8 => ?_
  have nq6' : H5 q6 = none := nq6
  have e58 : Ext H5 H8 := b8.ext (e6.trans e7) nq6
  have e38 := e35.trans e58
  have h58 := e58.look h5
  clear e36 e37 h56 h57 hq6 hq67 h8 b8 e7 e6 nq6' nq6
  reads_via
  refine v_ixLn (e38.look hmh) hb ?_
  reads_via
  refine v_own (hp0.ext e38).ins.choose_spec.choose_spec (hpb.ext e38).ins.choose_spec.choose_spec ⟨rfl, b0, b, _, _, rfl, hp0.ext e38, hpb.ext e38, fun q9 H9 nq9 e9 hq9 => ?_⟩
  have e39 := e38.trans e9
  reads_via
  refine ⟨rfl, q9, D, _, rfl, hq9, e9.look h58, by omega, ?_⟩
  reads_via
  refine v_ixLn (e39.look hmh) hb ?_
  reads_via
  refine v_own (hpb.ext e39).ins.choose_spec.choose_spec (hp0.ext e39).ins.choose_spec.choose_spec ⟨rfl, b, b0, _, _, rfl, hpb.ext e39, hp0.ext e39, fun q10 H10 nq10 e10 hq10 => ?_⟩
  rw [dif_sym] at hq10
  reads_via
  refine ⟨rfl, q10, D, _, rfl, hq10, e10.look (e9.look h58), by omega, ?_⟩
  reads_via
  exact ⟨_, _, _, rfl, e39.trans e10⟩
set_option maxHeartbeats 8000000 in
theorem ok_law {P : Program} {w : World} {K : PySem.W.Frag} {mg : Str → Option Value} {base : Heap} {c : Ad} {f : Addr} {fd : FuncData} (F : Fun K "law" "law" s_law f fd) (T : Txt K mg c) (F__law_read : Fn P w K mg base "_law_read" 5 ["_law_rows", "_law_text_here"] [] (sp__law_read c)) (F__law_made : Fn P w K mg base "_law_made" 5 ["_law_menu", "_law_words"] [] (sp__law_made c)) (F__law_differences : Fn P w K mg base "_law_differences" 8 ["_law_rows", "_law_at"] [] (sp__law_differences c)) (F__law_class_values : Fn P w K mg base "_law_class_values" 1 ["_law_menu"] [] (sp__law_class_values c)) (F__law_text : Fn P w K mg base "_law_text" 2 ["_law_base", "_law_words", "_law_nums"] [] (sp__law_text c)) (F__law_four : Fn P w K mg base "_law_four" 3 ["_law_menu", "_law_nums"] [] (sp__law_four c)) (F__law_all_words : Fn P w K mg base "_law_all_words" 1 ["_law_menu"] [] (sp__law_all_words c)) (F__law_menus : Fn P w K mg base "_law_menus" 1 [] [] (sp__law_menus c)) (F__law_pool : Fn P w K mg base "_law_pool" 2 ["_law_script", "_law_table"] [] (sp__law_pool c)) :
    FnOk P w K mg base (L2N.CX P w) 9 f fd ["_law_script"] (sp_law c) := by
  refine GG.Fun.okN F sc_law (fun vs H Q E h => h.1) (fun cdv ar ou sh H vs Q E hr h => ?_)
  obtain ⟨_, a, ns, rfl, hS, hn, hb, k⟩ := h
  have tk := L2N.takes_of (X := cxOf (L2N.CX P w) P w K mg base ["_law_script", "_law_table", "_law_nums", "_law_menu", "_law_rows", "_law_words", "_law_text_here", "_law_right"] "law" (defScope s_law) f cdv ar ou sh H E) rfl rfl rfl rfl
  refine ⟨_, (pss_cons (ps_asg (pe_lst (pa_cons pe_int (pa_cons pe_int (pa_cons pe_int (pa_cons pe_int (pa_cons pe_int (pa_cons pe_int (pa_cons pe_int (pa_cons pe_int (pa_cons pe_int (pa_cons pe_int (pa_cons pe_int (pa_cons pe_int (pa_cons pe_int (pa_cons pe_int (pa_cons pe_int (pa_cons pe_int pa_nil))))))))))))))))) (pg_name (i := 1) sc_law.nd rfl (Or.inl rfl)))
      (pss_cons (ps_asg (pe_fn F__law_pool (hr.mono (by decide)) (ps_of tk) (pa_cons (pv 0) (pa_cons (pv 1) pa_nil))) (pg_name (i := 2) sc_law.nd rfl (Or.inl rfl)))
      (pss_cons (ps_asg (pe_fn0 F__law_menus (hr.mono (by decide)) (ps_of tk)) (pg_name (i := 3) sc_law.nd rfl (Or.inl rfl)))
      (pss_cons (ps_asg (pe_fn F__law_all_words (hr.mono (by decide)) (ps_of tk) (pa_cons (pv 3) pa_nil)) (pg_name (i := 4) sc_law.nd rfl (Or.inl rfl)))
      (pss_cons (ps_asg (pe_fn F__law_four (hr.mono (by decide)) (ps_of tk) (pa_cons (pv 3) (pa_cons (pv 2) pa_nil))) (pg_name (i := 5) sc_law.nd rfl (Or.inl rfl)))
      (pss_cons (ps_asg (pe_fn F__law_text (hr.mono (by decide)) (ps_of tk) (pa_cons (pe_bmK K (pe_bm PySem.F.plainAttrs_str PySem.F.slot_str_join PySem.F.type_str_join (m_join K) pe_str (pa_cons (pe_ix (u_ix K) (pv 4) (pe_op u_mod (pe_ix (u_ix K) (pv 2) pe_int (fun _ _ => rfl)) pe_int) (fun _ _ => rfl)) pa_nil))) (pa_cons (pv 5) (pa_cons (pv 2) pa_nil)))) (pg_name (i := 6) sc_law.nd rfl (Or.inl rfl)))
      (pss_cons (ps_if (PW.pt (pw_or (pt_not (pt_tru K (pe_fn F__law_class_values (hr.mono (by decide)) (ps_of tk) (pa_cons (pv 3) pa_nil)) (by intro _; rfl))) (pw_or1 (pt_not (pt_tru K (pe_fn F__law_differences (hr.mono (by decide)) (ps_of tk) (pa_cons (pv 4) (pa_cons (pe_op u_mod (pe_ix (u_ix K) (pv 2) pe_int (fun _ _ => rfl)) pe_int) pa_nil))) (by intro _; rfl))))))
      (pss_one (ps_ret pe_bl))
      pss_nil)
      (pss_cons (ps_if (PW.pt (pw_or (pt_not (pt_tru K (pe_fn F__law_made (hr.mono (by decide)) (ps_of tk) (pa_cons (pv 3) (pa_cons (pv 5) pa_nil))) (by intro _; rfl))) (pw_or1 (pt_not (pt_tru K (pe_fn F__law_read (hr.mono (by decide)) (ps_of tk) (pa_cons (pv 4) (pa_cons (pv 6) pa_nil))) (by intro _; rfl))))))
      (pss_one (ps_ret pe_bl))
      pss_nil)
      (pss_cons (ps_asg (pe_ix (u_ix K) (pv 4) (pe_op u_mod (pe_ix (u_ix K) (pv 2) pe_int (fun _ _ => rfl)) pe_int) (fun _ _ => rfl)) (pg_name (i := 7) sc_law.nd rfl (Or.inl rfl)))
      (pss_one (ps_ret (pe_and (pe_fn F__law_made (hr.mono (by decide)) (ps_of tk) (pa_cons (pv 3) (pa_cons (pe_callTy (c_list K) (by rfl) T.b_list (by decide +kernel) (pa_cons (pv 7) pa_nil)) pa_nil))) (pe_one (pe_fn F__law_read (hr.mono (by decide)) (ps_of tk) (pa_cons (pv 4) (pa_cons (pe_bmK K (pe_bm PySem.F.plainAttrs_str PySem.F.slot_str_join PySem.F.type_str_join (m_join K) pe_str (pa_cons (pv 7) pa_nil))) pa_nil)))))))))))))))), ?_⟩
  try dsimp only [L2H.cxH, cxOf, Cx.suite, Cx.tr, List.map_cons, List.map_nil]
  refine run_start (σ := [some (.ref a), none, none, none, none, none, none, none]) rfl ?_
  clear tk
  rw [s_32]
  reads_via
  rename_i tb H0 ntb e0 htb
  refine ⟨rfl, a, tb, ns, [16, 12, 37, 33, 1, 9, 4, 2, 4, 57, 13, 5, 70, 6, 31, 8], rfl, e0.sq hS, hn, htb, rfl, fun p H1 np e1 hN => ?_⟩
  clear htb ntb e0 np e1
  reads_via
  refine ⟨rfl, rfl, fun m H2 e2 hM => ?_⟩
  replace hN := hN.ext e2
  clear e2
  reads_via
  refine ⟨rfl, m, rfl, hM, fun rw H3 nrw e3 hR => ?_⟩
  replace hN := hN.ext e3
  replace hM := hM.ext e3
  clear e3 nrw
  reads_via
  refine ⟨rfl, m, p, rfl, hM, hN, fun wp ws H4 nwp e4 hwp hwl hw => ?_⟩
  replace hN := hN.ext e4
  replace hM := hM.ext e4
  replace hR := hR.ext e4
  clear e4 nwp
  reads_via
  refine v_num hN (by decide) (by decide) fun n1 hn1 => ?_
  reads_via
  obtain ⟨j, hj⟩ : ∃ z : Nat, (n1 : Int) % 108 = (z : Int) := ⟨_, (Int.toNat_of_nonneg (Int.emod_nonneg _ (by decide))).symm⟩
  have hj1 : j < 108 := by have := Int.emod_lt_of_pos (n1 : Int) (show (0 : Int) < 108 by decide); omega
  rw [hj]
  obtain ⟨xs, u, hrw, hxu, hu⟩ := hR.at hj1
  refine v_ixLn hrw hxu ?_
  reads_via
  have hok := row_ok j hj1
  refine v_joinTv (.inl hu) (ok_sum hok) ?_
  reads_via
  refine ⟨rfl, _, ws, wp, p, rfl, (ok_join_tx hok).mono (by decide), hwp, hwl, hw, hN, by rw [ok_parts hok]; rfl, fun t H5 ht e5 => ?_⟩
  replace hN := hN.ext e5
  replace hM := hM.ext e5
  replace hR := hR.ext e5
  replace hwp := e5.look hwp
  clear e5 hrw hxu hu xs u hj hj1 hok j
  o_reads
  refine run_cut (fun σ' H' => σ' = [some (.ref a), some (.ref tb), some (.ref p), some (.ref m), some (.ref rw), some (.ref wp), some (.str (S t)), none] ∧ Ext H5 H') (fun nx' hn' => ?_) ?_
  · reads_via
    refine ⟨rfl, m, rfl, hM, fun H6 e6 => ?_⟩
    reads_via
    refine v_num (hN.ext e6) (by decide) (by decide) fun n2 hn2 => ?_
    reads_via
    obtain ⟨j, hj⟩ : ∃ z : Nat, (n2 : Int) % 108 = (z : Int) := ⟨_, (Int.toNat_of_nonneg (Int.emod_nonneg _ (by decide))).symm⟩
    have hj1 : j < 108 := by have := Int.emod_lt_of_pos (n2 : Int) (show (0 : Int) < 108 by decide); omega
    rw [hj]
    refine ⟨rfl, rw, j, rfl, hR.ext e6, hj1, fun H7 e7 => ?_⟩
    reads_via
    exact hn' _ _ ⟨rfl, e6.trans e7⟩
  rintro σ' H6 ⟨rfl, e6⟩
  replace hN := hN.ext e6
  replace hM := hM.ext e6
  replace hR := hR.ext e6
  replace hwp := e6.look hwp
  clear e6
  o_reads
  refine run_cut (fun σ' H' => σ' = [some (.ref a), some (.ref tb), some (.ref p), some (.ref m), some (.ref rw), some (.ref wp), some (.str (S t)), none] ∧ Ext H6 H') (fun nx' hn' => ?_) ?_
  · reads_via
    refine ⟨rfl, m, wp, ws, rfl, hM, hwp, hwl, hw, fun H7 e7 => ?_⟩
    reads_via
    refine ⟨rfl, rw, t, rfl, hR.ext e7, ht, fun H8 e8 => ?_⟩
    reads_via
    exact hn' _ _ ⟨rfl, e7.trans e8⟩
  rintro σ' H7 ⟨rfl, e7⟩
  replace hN := hN.ext e7
  replace hM := hM.ext e7
  replace hR := hR.ext e7
  clear e7 hwp
  reads_via
  refine v_num hN (by decide) (by decide) fun n3 hn3 => ?_
  reads_via
  obtain ⟨j, hj⟩ : ∃ z : Nat, (n3 : Int) % 108 = (z : Int) := ⟨_, (Int.toNat_of_nonneg (Int.emod_nonneg _ (by decide))).symm⟩
  have hj1 : j < 108 := by have := Int.emod_lt_of_pos (n3 : Int) (show (0 : Int) < 108 by decide); omega
  rw [hj]
  obtain ⟨xs, u, hrw, hxu, hu⟩ := hR.at hj1
  have hok := row_ok j hj1
  refine v_ixLn hrw hxu ?_
  reads_via
  rename_i q8 H8 nq8 e8 hq8
  refine ⟨rfl, m, q8, row j, rfl, hM.ext e8, hq8, rfl, fun w hw => (ok_tx hok w hw).1.mono (by decide), fun H9 e9 => ?_⟩
  reads_via
  refine v_joinTv (.inl (e9.look (e8.look hu))) (ok_sum hok) ?_
  reads_via
  refine ⟨rfl, rw, _, rfl, (hR.ext e8).ext e9, (ok_join_tx hok).mono (by decide), fun H10 e10 => ?_⟩
  reads_via
  exact k _
end K34
namespace K34
open PySem L2 GG PyProof.Rows
abbrev s_E : Stmt := (inClass (top 1) 0)
theorem all_mk {l : PySem.W.OpenLaw} {w : World} {K : PySem.W.Frag} {h : Heap} {mg : Str → Option Value} {fa : Addr} {A_GangError A_BadName A_BadPolicy A_BadEvent A_Policy A_fE A_t_ORDERS A_t_PLACES A_t_EVICTS A_t_FILLS : Addr} (X : K.In h) (G : h.Ns mainGlobals mg) (hfa : mg "law" = some (.ref fa))
    {od_ORDERS : Option Addr} {n_ORDERS : Nat} {sl_ORDERS : Array (Option Value)} {u_ORDERS_0 u_ORDERS_1 u_ORDERS_2 u_ORDERS_3 : Value}
    {od_PLACES : Option Addr} {n_PLACES : Nat} {sl_PLACES : Array (Option Value)} {u_PLACES_0 u_PLACES_1 u_PLACES_2 : Value}
    {od_EVICTS : Option Addr} {n_EVICTS : Nat} {sl_EVICTS : Array (Option Value)} {u_EVICTS_0 u_EVICTS_1 u_EVICTS_2 : Value}
    {od_FILLS : Option Addr} {n_FILLS : Nat} {sl_FILLS : Array (Option Value)} {u_FILLS_0 u_FILLS_1 u_FILLS_2 : Value}
    {oc_E dc_E pm_E cd_E ct_E : Value} {od_E an_E : Option Addr} {sl_E : Array (Option Value)}
    {nm_BadPolicy q_BadPolicy : Str} {N_BadPolicy : Addr} {bs_BadPolicy : List Value} {sn_BadPolicy : List Str} {sub_BadPolicy : List Value} {ab_BadPolicy : Bool} {col_BadPolicy : Option Bool} {dd_BadPolicy : Option Addr} {m0_BadPolicy m1_BadPolicy m2_BadPolicy m3_BadPolicy m5_BadPolicy : Option Value}
    {f_wrong_word : Addr} {od_wrong_word an_wrong_word : Option Addr} {sl_wrong_word : Array (Option Value)} {oc_wrong_word kV_wrong_word dc_wrong_word pm_wrong_word cd_wrong_word ct_wrong_word : Value}
    {f_Policy___init__ : Addr} {od_Policy___init__ an_Policy___init__ : Option Addr} {sl_Policy___init__ : Array (Option Value)} {oc_Policy___init__ kV_Policy___init__ dc_Policy___init__ pm_Policy___init__ cd_Policy___init__ ct_Policy___init__ : Value}
    {f_Policy_read : Addr} {od_Policy_read an_Policy_read : Option Addr} {sl_Policy_read : Array (Option Value)} {oc_Policy_read kV_Policy_read dc_Policy_read pm_Policy_read cd_Policy_read ct_Policy_read : Value}
    {p_Policy_read : Addr} {rest_Policy_read : List Value}
    {f_Policy_text : Addr} {od_Policy_text an_Policy_text : Option Addr} {sl_Policy_text : Array (Option Value)} {oc_Policy_text kV_Policy_text dc_Policy_text pm_Policy_text cd_Policy_text ct_Policy_text : Value}
    {f_Policy___xor__ : Addr} {od_Policy___xor__ an_Policy___xor__ : Option Addr} {sl_Policy___xor__ : Array (Option Value)} {oc_Policy___xor__ kV_Policy___xor__ dc_Policy___xor__ pm_Policy___xor__ cd_Policy___xor__ ct_Policy___xor__ : Value}
    {f_Policy___eq__ : Addr} {od_Policy___eq__ an_Policy___eq__ : Option Addr} {sl_Policy___eq__ : Array (Option Value)} {oc_Policy___eq__ kV_Policy___eq__ dc_Policy___eq__ pm_Policy___eq__ cd_Policy___eq__ ct_Policy___eq__ : Value}
    {f_Policy___iter__ : Addr} {od_Policy___iter__ an_Policy___iter__ : Option Addr} {sl_Policy___iter__ : Array (Option Value)} {oc_Policy___iter__ kV_Policy___iter__ dc_Policy___iter__ pm_Policy___iter__ cd_Policy___iter__ ct_Policy___iter__ : Value}
    {f_all_policies : Addr} {od_all_policies an_all_policies : Option Addr} {sl_all_policies : Array (Option Value)} {oc_all_policies kV_all_policies dc_all_policies pm_all_policies cd_all_policies ct_all_policies : Value}
    {f__law_mixed : Addr} {od__law_mixed an__law_mixed : Option Addr} {sl__law_mixed : Array (Option Value)} {oc__law_mixed kV__law_mixed dc__law_mixed pm__law_mixed cd__law_mixed ct__law_mixed : Value}
    {f__law_pool : Addr} {od__law_pool an__law_pool : Option Addr} {sl__law_pool : Array (Option Value)} {oc__law_pool kV__law_pool dc__law_pool pm__law_pool cd__law_pool ct__law_pool : Value}
    {f__law_sign : Addr} {od__law_sign an__law_sign : Option Addr} {sl__law_sign : Array (Option Value)} {oc__law_sign kV__law_sign dc__law_sign pm__law_sign cd__law_sign ct__law_sign : Value}
    {f__law_menus : Addr} {od__law_menus an__law_menus : Option Addr} {sl__law_menus : Array (Option Value)} {oc__law_menus kV__law_menus dc__law_menus pm__law_menus cd__law_menus ct__law_menus : Value}
    {f__law_all_words : Addr} {od__law_all_words an__law_all_words : Option Addr} {sl__law_all_words : Array (Option Value)} {oc__law_all_words kV__law_all_words dc__law_all_words pm__law_all_words cd__law_all_words ct__law_all_words : Value}
    {f__law_word : Addr} {od__law_word an__law_word : Option Addr} {sl__law_word : Array (Option Value)} {oc__law_word kV__law_word dc__law_word pm__law_word cd__law_word ct__law_word : Value}
    {f__law_four : Addr} {od__law_four an__law_four : Option Addr} {sl__law_four : Array (Option Value)} {oc__law_four kV__law_four dc__law_four pm__law_four cd__law_four ct__law_four : Value}
    {f__law_text : Addr} {od__law_text an__law_text : Option Addr} {sl__law_text : Array (Option Value)} {oc__law_text kV__law_text dc__law_text pm__law_text cd__law_text ct__law_text : Value}
    {f__law_is_policy : Addr} {od__law_is_policy an__law_is_policy : Option Addr} {sl__law_is_policy : Array (Option Value)} {oc__law_is_policy kV__law_is_policy dc__law_is_policy pm__law_is_policy cd__law_is_policy ct__law_is_policy : Value}
    {f__law_is_indexes : Addr} {od__law_is_indexes an__law_is_indexes : Option Addr} {sl__law_is_indexes : Array (Option Value)} {oc__law_is_indexes kV__law_is_indexes dc__law_is_indexes pm__law_is_indexes cd__law_is_indexes ct__law_is_indexes : Value}
    {f__law_class_values : Addr} {od__law_class_values an__law_class_values : Option Addr} {sl__law_class_values : Array (Option Value)} {oc__law_class_values kV__law_class_values dc__law_class_values pm__law_class_values cd__law_class_values ct__law_class_values : Value}
    {f__law_made : Addr} {od__law_made an__law_made : Option Addr} {sl__law_made : Array (Option Value)} {oc__law_made kV__law_made dc__law_made pm__law_made cd__law_made ct__law_made : Value}
    {f__law_read : Addr} {od__law_read an__law_read : Option Addr} {sl__law_read : Array (Option Value)} {oc__law_read kV__law_read dc__law_read pm__law_read cd__law_read ct__law_read : Value}
    {f__law_differences : Addr} {od__law_differences an__law_differences : Option Addr} {sl__law_differences : Array (Option Value)} {oc__law_differences kV__law_differences dc__law_differences pm__law_differences cd__law_differences ct__law_differences : Value}
    {f_law : Addr} {od_law an_law : Option Addr} {sl_law : Array (Option Value)} {oc_law kV_law dc_law pm_law cd_law ct_law : Value}
    (z_ValueError : PySem.W.nsIn K mainGlobals "ValueError" = some none)
    (z_len : PySem.W.nsIn K mainGlobals "len" = some none)
    (z_int : PySem.W.nsIn K mainGlobals "int" = some none)
    (z_abs : PySem.W.nsIn K mainGlobals "abs" = some none)
    (z_isinstance : PySem.W.nsIn K mainGlobals "isinstance" = some none)
    (z_bool : PySem.W.nsIn K mainGlobals "bool" = some none)
    (z_range : PySem.W.nsIn K mainGlobals "range" = some none)
    (z_str : PySem.W.nsIn K mainGlobals "str" = some none)
    (z_list : PySem.W.nsIn K mainGlobals "list" = some none)
    (z_tuple : PySem.W.nsIn K mainGlobals "tuple" = some none)
    (z_enumerate : PySem.W.nsIn K mainGlobals "enumerate" = some none)
    (z_iter : PySem.W.nsIn K mainGlobals "iter" = some none)
    (a_GangError : PySem.W.nsIn K mainGlobals "GangError" = some (some (.ref A_GangError)))
    (a_BadName : PySem.W.nsIn K mainGlobals "BadName" = some (some (.ref A_BadName)))
    (a_BadPolicy : PySem.W.nsIn K mainGlobals "BadPolicy" = some (some (.ref A_BadPolicy)))
    (a_BadEvent : PySem.W.nsIn K mainGlobals "BadEvent" = some (some (.ref A_BadEvent)))
    (a_Policy : PySem.W.nsIn K mainGlobals "Policy" = some (some (.ref A_Policy)))
    (cr_ORDERS : PySem.W.readsIn K A_Policy (.type "type") = true)
    (ca_ORDERS : PySem.W.findCls K (.ref A_Policy) (.type "type") "ORDERS" = some (.val (.ref A_t_ORDERS)))
    (cl_ORDERS : K.lookup A_t_ORDERS = some ⟨.type "tuple", od_ORDERS, .seq #[u_ORDERS_0, u_ORDERS_1, u_ORDERS_2, u_ORDERS_3] n_ORDERS, sl_ORDERS⟩)
    (cv_u_ORDERS_0 : RelV (.str (S [115, 104, 97, 114, 101])) u_ORDERS_0)
    (cv_u_ORDERS_1 : RelV (.str (S [114, 97, 110, 107])) u_ORDERS_1)
    (cv_u_ORDERS_2 : RelV (.str (S [97, 103, 101])) u_ORDERS_2)
    (cv_u_ORDERS_3 : RelV (.str (S [115, 104, 111, 114, 116])) u_ORDERS_3)
    (cr_PLACES : PySem.W.readsIn K A_Policy (.type "type") = true)
    (ca_PLACES : PySem.W.findCls K (.ref A_Policy) (.type "type") "PLACES" = some (.val (.ref A_t_PLACES)))
    (cl_PLACES : K.lookup A_t_PLACES = some ⟨.type "tuple", od_PLACES, .seq #[u_PLACES_0, u_PLACES_1, u_PLACES_2] n_PLACES, sl_PLACES⟩)
    (cv_u_PLACES_0 : RelV (.str (S [102, 105, 114, 115, 116])) u_PLACES_0)
    (cv_u_PLACES_1 : RelV (.str (S [116, 105, 103, 104, 116])) u_PLACES_1)
    (cv_u_PLACES_2 : RelV (.str (S [108, 111, 111, 115, 101])) u_PLACES_2)
    (cr_EVICTS : PySem.W.readsIn K A_Policy (.type "type") = true)
    (ca_EVICTS : PySem.W.findCls K (.ref A_Policy) (.type "type") "EVICTS" = some (.val (.ref A_t_EVICTS)))
    (cl_EVICTS : K.lookup A_t_EVICTS = some ⟨.type "tuple", od_EVICTS, .seq #[u_EVICTS_0, u_EVICTS_1, u_EVICTS_2] n_EVICTS, sl_EVICTS⟩)
    (cv_u_EVICTS_0 : RelV (.str (S [110, 101, 118, 101, 114])) u_EVICTS_0)
    (cv_u_EVICTS_1 : RelV (.str (S [111, 119, 101, 100])) u_EVICTS_1)
    (cv_u_EVICTS_2 : RelV (.str (S [97, 110, 121])) u_EVICTS_2)
    (cr_FILLS : PySem.W.readsIn K A_Policy (.type "type") = true)
    (ca_FILLS : PySem.W.findCls K (.ref A_Policy) (.type "type") "FILLS" = some (.val (.ref A_t_FILLS)))
    (cl_FILLS : K.lookup A_t_FILLS = some ⟨.type "tuple", od_FILLS, .seq #[u_FILLS_0, u_FILLS_1, u_FILLS_2] n_FILLS, sl_FILLS⟩)
    (cv_u_FILLS_0 : RelV (.str (S [102, 114, 101, 101])) u_FILLS_0)
    (cv_u_FILLS_1 : RelV (.str (S [115, 116, 114, 105, 99, 116])) u_FILLS_1)
    (cv_u_FILLS_2 : RelV (.str (S [104, 111, 108, 100])) u_FILLS_2)
    (nl_Policy : PySem.W.findIn K (.ref A_Policy) "__len__" = some none)
    (nh_Policy : PySem.W.findIn K (.ref A_Policy) "__length_hint__" = some none)
    (hn0 : PySem.W.specialIn K (.builtin "object.__class__") "__get__" = some (some (.builtin "getset_descriptor.__get__")))
    (ht0 : PySem.W.takesIn K (.builtin "object.__class__") = some true)
    (pg_Policy : PySem.W.plainGet K A_Policy Str.empty = true)
    (hd_Policy : PySem.W.hasDictIn K A_Policy = true)
    (po_Policy : PySem.W.plainOver K A_Policy = true)
    (sa_Policy : PySem.W.findIn K (.ref A_Policy) "__setattr__" = some (some (.builtin "object.__setattr__")))
    (mk_Policy : PySem.W.makesIn K A_Policy = true)
    (kc_Policy : PySem.W.keepIn K (.ref A_Policy) = true)
    (sf_Policy : PySem.W.selfFirst K A_Policy = true)
    (ha_Policy : PySem.W.findIn K (.ref A_Policy) "__class__" = some (some (.builtin "object.__class__")))
    (hm_Policy : PySem.W.mroIn K A_Policy (.type "object") = some true)
    (na_Policy_order : PySem.W.findIn K (.ref A_Policy) "order" = some none)
    (na_Policy_place : PySem.W.findIn K (.ref A_Policy) "place" = some none)
    (na_Policy_evict : PySem.W.findIn K (.ref A_Policy) "evict" = some none)
    (na_Policy_fill : PySem.W.findIn K (.ref A_Policy) "fill" = some none)
    (na_Policy_all_words : PySem.W.findIn K (.ref A_Policy) "all_words" = some none)
    (ei_BadPolicy : PySem.W.findIn K (.ref A_BadPolicy) "__init__" = some (some (.ref A_fE)))
    (l_E : K.lookup A_fE = some ⟨oc_E, od_E, .func (PySem.W.fnOf "__init__" "GangError.__init__" (defArgs s_E) (defBody s_E) (defScope s_E) .none .none dc_E pm_E an_E cd_E ct_E), sl_E⟩)
    (c_E : PySem.W.codeIn K cd_E "GangError.__init__" = true)
    (t_E : PySem.W.typeIn K (.ref A_fE) = some (.type "function"))
    (xL_BadPolicy : K.lookup A_BadPolicy = some (excClassObj nm_BadPolicy q_BadPolicy A_BadPolicy N_BadPolicy bs_BadPolicy [.ref A_GangError, .type "ValueError", .type "Exception", .type "BaseException", .type "object"] true sn_BadPolicy sub_BadPolicy ab_BadPolicy col_BadPolicy dd_BadPolicy m0_BadPolicy m1_BadPolicy m2_BadPolicy m3_BadPolicy m5_BadPolicy "ValueError.__new__"))
    (esa_BadPolicy : PySem.W.findIn K (.ref A_BadPolicy) "__setattr__" = some (some (.builtin "object.__setattr__")))
    (ega_BadPolicy : PySem.W.findIn K (.ref A_BadPolicy) "__getattribute__" = some (some (.builtin "BaseException.__getattribute__")))
    (egg_BadPolicy : PySem.W.findIn K (.ref A_BadPolicy) "__getattr__" = some none)
    (ens_BadPolicy : PySem.W.findIn K (.ref A_BadPolicy) "subject" = some none)
    (ek_BadPolicy : PySem.W.keepIn K (.ref A_BadPolicy) = true)
    (ebe_BadPolicy : PySem.W.subIn K (.ref A_BadPolicy) (.type "BaseException") = some true)
    (ety_BadPolicy : PySem.W.typeIn K (.ref A_BadPolicy) = some (.type "type"))
    (ehd_BadPolicy : PySem.W.hasDictIn K A_BadPolicy = true)
    (eha_BadPolicy : PySem.W.findIn K (.ref A_BadPolicy) "__class__" = some (some (.builtin "object.__class__")))
    (ehm_BadPolicy : PySem.W.mroIn K A_BadPolicy (.type "object") = some true)
    (cb_GangError : PySem.W.subIn K (.ref A_GangError) (.type "BaseException") = some true)
    (ch_GangError : PySem.W.hasDictIn K A_GangError = true)
    (ct_GangError : PySem.W.typeIn K (.ref A_GangError) = some (.type "type"))
    (cs_BadPolicy_GangError : PySem.W.subIn K (.ref A_BadPolicy) (.ref A_GangError) = some true)
    (k_BadPolicy_BadPolicy : PySem.W.kitOne K (.ref A_BadPolicy) (.ref A_BadPolicy) = some true)
    (k_BadPolicy_ValueError : PySem.W.kitOne K (.ref A_BadPolicy) (.type "ValueError") = some true)
    (k_BadPolicy_BadName : PySem.W.kitOne K (.ref A_BadPolicy) (.ref A_BadName) = some false)
    (k_BadPolicy_BadEvent : PySem.W.kitOne K (.ref A_BadPolicy) (.ref A_BadEvent) = some false)
    (a_wrong_word : PySem.W.nsIn K mainGlobals "wrong_word" = some (some (.ref f_wrong_word)))
    (l_wrong_word : K.lookup f_wrong_word = some ⟨oc_wrong_word, od_wrong_word, .func (PySem.W.fnOf "wrong_word" "wrong_word" (defArgs s_wrong_word) (defBody s_wrong_word) (defScope s_wrong_word) .none kV_wrong_word dc_wrong_word pm_wrong_word an_wrong_word cd_wrong_word ct_wrong_word), sl_wrong_word⟩)
    (c_wrong_word : PySem.W.codeIn K cd_wrong_word "wrong_word" = true)
    (k_wrong_word : PySem.W.keepIn K (.ref f_wrong_word) = true)
    (a_Policy___init__ : PySem.W.findIn K (.ref A_Policy) "__init__" = some (some (.ref f_Policy___init__)))
    (i_Policy___init__ : PySem.W.isFn K (.ref f_Policy___init__) = true)
    (l_Policy___init__ : K.lookup f_Policy___init__ = some ⟨oc_Policy___init__, od_Policy___init__, .func (PySem.W.fnOf "__init__" "Policy.__init__" (defArgs s_Policy___init__) (defBody s_Policy___init__) (defScope s_Policy___init__) .none kV_Policy___init__ dc_Policy___init__ pm_Policy___init__ an_Policy___init__ cd_Policy___init__ ct_Policy___init__), sl_Policy___init__⟩)
    (c_Policy___init__ : PySem.W.codeIn K cd_Policy___init__ "Policy.__init__" = true)
    (k_Policy___init__ : PySem.W.keepIn K (.ref f_Policy___init__) = true)
    (rd_Policy_read : PySem.W.readsIn K A_Policy (.type "type") = true)
    (ga_Policy_read : PySem.W.specialIn K (.ref A_Policy) "__getattribute__" = some (some (.builtin "type.__getattribute__")))
    (a_Policy_read : PySem.W.findCls K (.ref A_Policy) (.type "type") "read" = some (.get (.builtin "classmethod.__get__") (.ref p_Policy_read) .none (.ref A_Policy)))
    (sr_Policy_read : PySem.W.recIn K p_Policy_read "classmethod" = some (.ref f_Policy_read :: rest_Policy_read))
    (fi_Policy_read : PySem.W.fnIn K f_Policy_read = true)
    (l_Policy_read : K.lookup f_Policy_read = some ⟨oc_Policy_read, od_Policy_read, .func (PySem.W.fnOf "read" "Policy.read" (defArgs s_Policy_read) (defBody s_Policy_read) (defScope s_Policy_read) .none kV_Policy_read dc_Policy_read pm_Policy_read an_Policy_read cd_Policy_read ct_Policy_read), sl_Policy_read⟩)
    (c_Policy_read : PySem.W.codeIn K cd_Policy_read "Policy.read" = true)
    (k_Policy_read : PySem.W.keepIn K (.ref f_Policy_read) = true)
    (a_Policy_text : PySem.W.findIn K (.ref A_Policy) "text" = some (some (.ref f_Policy_text)))
    (i_Policy_text : PySem.W.isFn K (.ref f_Policy_text) = true)
    (l_Policy_text : K.lookup f_Policy_text = some ⟨oc_Policy_text, od_Policy_text, .func (PySem.W.fnOf "text" "Policy.text" (defArgs s_Policy_text) (defBody s_Policy_text) (defScope s_Policy_text) .none kV_Policy_text dc_Policy_text pm_Policy_text an_Policy_text cd_Policy_text ct_Policy_text), sl_Policy_text⟩)
    (c_Policy_text : PySem.W.codeIn K cd_Policy_text "Policy.text" = true)
    (k_Policy_text : PySem.W.keepIn K (.ref f_Policy_text) = true)
    (a_Policy___xor__ : PySem.W.findIn K (.ref A_Policy) "__xor__" = some (some (.ref f_Policy___xor__)))
    (i_Policy___xor__ : PySem.W.isFn K (.ref f_Policy___xor__) = true)
    (l_Policy___xor__ : K.lookup f_Policy___xor__ = some ⟨oc_Policy___xor__, od_Policy___xor__, .func (PySem.W.fnOf "__xor__" "Policy.__xor__" (defArgs s_Policy___xor__) (defBody s_Policy___xor__) (defScope s_Policy___xor__) .none kV_Policy___xor__ dc_Policy___xor__ pm_Policy___xor__ an_Policy___xor__ cd_Policy___xor__ ct_Policy___xor__), sl_Policy___xor__⟩)
    (c_Policy___xor__ : PySem.W.codeIn K cd_Policy___xor__ "Policy.__xor__" = true)
    (k_Policy___xor__ : PySem.W.keepIn K (.ref f_Policy___xor__) = true)
    (a_Policy___eq__ : PySem.W.findIn K (.ref A_Policy) "__eq__" = some (some (.ref f_Policy___eq__)))
    (i_Policy___eq__ : PySem.W.isFn K (.ref f_Policy___eq__) = true)
    (l_Policy___eq__ : K.lookup f_Policy___eq__ = some ⟨oc_Policy___eq__, od_Policy___eq__, .func (PySem.W.fnOf "__eq__" "Policy.__eq__" (defArgs s_Policy___eq__) (defBody s_Policy___eq__) (defScope s_Policy___eq__) .none kV_Policy___eq__ dc_Policy___eq__ pm_Policy___eq__ an_Policy___eq__ cd_Policy___eq__ ct_Policy___eq__), sl_Policy___eq__⟩)
    (c_Policy___eq__ : PySem.W.codeIn K cd_Policy___eq__ "Policy.__eq__" = true)
    (k_Policy___eq__ : PySem.W.keepIn K (.ref f_Policy___eq__) = true)
    (a_Policy___iter__ : PySem.W.findIn K (.ref A_Policy) "__iter__" = some (some (.ref f_Policy___iter__)))
    (i_Policy___iter__ : PySem.W.isFn K (.ref f_Policy___iter__) = true)
    (l_Policy___iter__ : K.lookup f_Policy___iter__ = some ⟨oc_Policy___iter__, od_Policy___iter__, .func (PySem.W.fnOf "__iter__" "Policy.__iter__" (defArgs s_Policy___iter__) (defBody s_Policy___iter__) (defScope s_Policy___iter__) .none kV_Policy___iter__ dc_Policy___iter__ pm_Policy___iter__ an_Policy___iter__ cd_Policy___iter__ ct_Policy___iter__), sl_Policy___iter__⟩)
    (c_Policy___iter__ : PySem.W.codeIn K cd_Policy___iter__ "Policy.__iter__" = true)
    (k_Policy___iter__ : PySem.W.keepIn K (.ref f_Policy___iter__) = true)
    (a_all_policies : PySem.W.nsIn K mainGlobals "all_policies" = some (some (.ref f_all_policies)))
    (l_all_policies : K.lookup f_all_policies = some ⟨oc_all_policies, od_all_policies, .func (PySem.W.fnOf "all_policies" "all_policies" (defArgs s_all_policies) (defBody s_all_policies) (defScope s_all_policies) .none kV_all_policies dc_all_policies pm_all_policies an_all_policies cd_all_policies ct_all_policies), sl_all_policies⟩)
    (c_all_policies : PySem.W.codeIn K cd_all_policies "all_policies" = true)
    (k_all_policies : PySem.W.keepIn K (.ref f_all_policies) = true)
    (a__law_mixed : PySem.W.nsIn K mainGlobals "_law_mixed" = some (some (.ref f__law_mixed)))
    (l__law_mixed : K.lookup f__law_mixed = some ⟨oc__law_mixed, od__law_mixed, .func (PySem.W.fnOf "_law_mixed" "_law_mixed" (defArgs s__law_mixed) (defBody s__law_mixed) (defScope s__law_mixed) .none kV__law_mixed dc__law_mixed pm__law_mixed an__law_mixed cd__law_mixed ct__law_mixed), sl__law_mixed⟩)
    (c__law_mixed : PySem.W.codeIn K cd__law_mixed "_law_mixed" = true)
    (k__law_mixed : PySem.W.keepIn K (.ref f__law_mixed) = true)
    (a__law_pool : PySem.W.nsIn K mainGlobals "_law_pool" = some (some (.ref f__law_pool)))
    (l__law_pool : K.lookup f__law_pool = some ⟨oc__law_pool, od__law_pool, .func (PySem.W.fnOf "_law_pool" "_law_pool" (defArgs s__law_pool) (defBody s__law_pool) (defScope s__law_pool) .none kV__law_pool dc__law_pool pm__law_pool an__law_pool cd__law_pool ct__law_pool), sl__law_pool⟩)
    (c__law_pool : PySem.W.codeIn K cd__law_pool "_law_pool" = true)
    (k__law_pool : PySem.W.keepIn K (.ref f__law_pool) = true)
    (a__law_sign : PySem.W.nsIn K mainGlobals "_law_sign" = some (some (.ref f__law_sign)))
    (l__law_sign : K.lookup f__law_sign = some ⟨oc__law_sign, od__law_sign, .func (PySem.W.fnOf "_law_sign" "_law_sign" (defArgs s__law_sign) (defBody s__law_sign) (defScope s__law_sign) .none kV__law_sign dc__law_sign pm__law_sign an__law_sign cd__law_sign ct__law_sign), sl__law_sign⟩)
    (c__law_sign : PySem.W.codeIn K cd__law_sign "_law_sign" = true)
    (k__law_sign : PySem.W.keepIn K (.ref f__law_sign) = true)
    (a__law_menus : PySem.W.nsIn K mainGlobals "_law_menus" = some (some (.ref f__law_menus)))
    (l__law_menus : K.lookup f__law_menus = some ⟨oc__law_menus, od__law_menus, .func (PySem.W.fnOf "_law_menus" "_law_menus" (defArgs s__law_menus) (defBody s__law_menus) (defScope s__law_menus) .none kV__law_menus dc__law_menus pm__law_menus an__law_menus cd__law_menus ct__law_menus), sl__law_menus⟩)
    (c__law_menus : PySem.W.codeIn K cd__law_menus "_law_menus" = true)
    (k__law_menus : PySem.W.keepIn K (.ref f__law_menus) = true)
    (a__law_all_words : PySem.W.nsIn K mainGlobals "_law_all_words" = some (some (.ref f__law_all_words)))
    (l__law_all_words : K.lookup f__law_all_words = some ⟨oc__law_all_words, od__law_all_words, .func (PySem.W.fnOf "_law_all_words" "_law_all_words" (defArgs s__law_all_words) (defBody s__law_all_words) (defScope s__law_all_words) .none kV__law_all_words dc__law_all_words pm__law_all_words an__law_all_words cd__law_all_words ct__law_all_words), sl__law_all_words⟩)
    (c__law_all_words : PySem.W.codeIn K cd__law_all_words "_law_all_words" = true)
    (k__law_all_words : PySem.W.keepIn K (.ref f__law_all_words) = true)
    (a__law_word : PySem.W.nsIn K mainGlobals "_law_word" = some (some (.ref f__law_word)))
    (l__law_word : K.lookup f__law_word = some ⟨oc__law_word, od__law_word, .func (PySem.W.fnOf "_law_word" "_law_word" (defArgs s__law_word) (defBody s__law_word) (defScope s__law_word) .none kV__law_word dc__law_word pm__law_word an__law_word cd__law_word ct__law_word), sl__law_word⟩)
    (c__law_word : PySem.W.codeIn K cd__law_word "_law_word" = true)
    (k__law_word : PySem.W.keepIn K (.ref f__law_word) = true)
    (a__law_four : PySem.W.nsIn K mainGlobals "_law_four" = some (some (.ref f__law_four)))
    (l__law_four : K.lookup f__law_four = some ⟨oc__law_four, od__law_four, .func (PySem.W.fnOf "_law_four" "_law_four" (defArgs s__law_four) (defBody s__law_four) (defScope s__law_four) .none kV__law_four dc__law_four pm__law_four an__law_four cd__law_four ct__law_four), sl__law_four⟩)
    (c__law_four : PySem.W.codeIn K cd__law_four "_law_four" = true)
    (k__law_four : PySem.W.keepIn K (.ref f__law_four) = true)
    (a__law_text : PySem.W.nsIn K mainGlobals "_law_text" = some (some (.ref f__law_text)))
    (l__law_text : K.lookup f__law_text = some ⟨oc__law_text, od__law_text, .func (PySem.W.fnOf "_law_text" "_law_text" (defArgs s__law_text) (defBody s__law_text) (defScope s__law_text) .none kV__law_text dc__law_text pm__law_text an__law_text cd__law_text ct__law_text), sl__law_text⟩)
    (c__law_text : PySem.W.codeIn K cd__law_text "_law_text" = true)
    (k__law_text : PySem.W.keepIn K (.ref f__law_text) = true)
    (a__law_is_policy : PySem.W.nsIn K mainGlobals "_law_is_policy" = some (some (.ref f__law_is_policy)))
    (l__law_is_policy : K.lookup f__law_is_policy = some ⟨oc__law_is_policy, od__law_is_policy, .func (PySem.W.fnOf "_law_is_policy" "_law_is_policy" (defArgs s__law_is_policy) (defBody s__law_is_policy) (defScope s__law_is_policy) .none kV__law_is_policy dc__law_is_policy pm__law_is_policy an__law_is_policy cd__law_is_policy ct__law_is_policy), sl__law_is_policy⟩)
    (c__law_is_policy : PySem.W.codeIn K cd__law_is_policy "_law_is_policy" = true)
    (k__law_is_policy : PySem.W.keepIn K (.ref f__law_is_policy) = true)
    (a__law_is_indexes : PySem.W.nsIn K mainGlobals "_law_is_indexes" = some (some (.ref f__law_is_indexes)))
    (l__law_is_indexes : K.lookup f__law_is_indexes = some ⟨oc__law_is_indexes, od__law_is_indexes, .func (PySem.W.fnOf "_law_is_indexes" "_law_is_indexes" (defArgs s__law_is_indexes) (defBody s__law_is_indexes) (defScope s__law_is_indexes) .none kV__law_is_indexes dc__law_is_indexes pm__law_is_indexes an__law_is_indexes cd__law_is_indexes ct__law_is_indexes), sl__law_is_indexes⟩)
    (c__law_is_indexes : PySem.W.codeIn K cd__law_is_indexes "_law_is_indexes" = true)
    (k__law_is_indexes : PySem.W.keepIn K (.ref f__law_is_indexes) = true)
    (a__law_class_values : PySem.W.nsIn K mainGlobals "_law_class_values" = some (some (.ref f__law_class_values)))
    (l__law_class_values : K.lookup f__law_class_values = some ⟨oc__law_class_values, od__law_class_values, .func (PySem.W.fnOf "_law_class_values" "_law_class_values" (defArgs s__law_class_values) (defBody s__law_class_values) (defScope s__law_class_values) .none kV__law_class_values dc__law_class_values pm__law_class_values an__law_class_values cd__law_class_values ct__law_class_values), sl__law_class_values⟩)
    (c__law_class_values : PySem.W.codeIn K cd__law_class_values "_law_class_values" = true)
    (k__law_class_values : PySem.W.keepIn K (.ref f__law_class_values) = true)
    (a__law_made : PySem.W.nsIn K mainGlobals "_law_made" = some (some (.ref f__law_made)))
    (l__law_made : K.lookup f__law_made = some ⟨oc__law_made, od__law_made, .func (PySem.W.fnOf "_law_made" "_law_made" (defArgs s__law_made) (defBody s__law_made) (defScope s__law_made) .none kV__law_made dc__law_made pm__law_made an__law_made cd__law_made ct__law_made), sl__law_made⟩)
    (c__law_made : PySem.W.codeIn K cd__law_made "_law_made" = true)
    (k__law_made : PySem.W.keepIn K (.ref f__law_made) = true)
    (a__law_read : PySem.W.nsIn K mainGlobals "_law_read" = some (some (.ref f__law_read)))
    (l__law_read : K.lookup f__law_read = some ⟨oc__law_read, od__law_read, .func (PySem.W.fnOf "_law_read" "_law_read" (defArgs s__law_read) (defBody s__law_read) (defScope s__law_read) .none kV__law_read dc__law_read pm__law_read an__law_read cd__law_read ct__law_read), sl__law_read⟩)
    (c__law_read : PySem.W.codeIn K cd__law_read "_law_read" = true)
    (k__law_read : PySem.W.keepIn K (.ref f__law_read) = true)
    (a__law_differences : PySem.W.nsIn K mainGlobals "_law_differences" = some (some (.ref f__law_differences)))
    (l__law_differences : K.lookup f__law_differences = some ⟨oc__law_differences, od__law_differences, .func (PySem.W.fnOf "_law_differences" "_law_differences" (defArgs s__law_differences) (defBody s__law_differences) (defScope s__law_differences) .none kV__law_differences dc__law_differences pm__law_differences an__law_differences cd__law_differences ct__law_differences), sl__law_differences⟩)
    (c__law_differences : PySem.W.codeIn K cd__law_differences "_law_differences" = true)
    (k__law_differences : PySem.W.keepIn K (.ref f__law_differences) = true)
    (a_law : PySem.W.nsIn K mainGlobals "law" = some (some (.ref f_law)))
    (l_law : K.lookup f_law = some ⟨oc_law, od_law, .func (PySem.W.fnOf "law" "law" (defArgs s_law) (defBody s_law) (defScope s_law) .none kV_law dc_law pm_law an_law cd_law ct_law), sl_law⟩)
    (c_law : PySem.W.codeIn K cd_law "law" = true)
    (k_law : PySem.W.keepIn K (.ref f_law) = true)
    : ∃ fd : FuncData, (∀ (s : Shared) (v : Value), BindsTo s fd ⟨[v], []⟩ [("_law_script", v)]) ∧ ∀ base : Heap, K.In base → base.Ns mainGlobals mg → FnOk l.prog w K mg base (L2N.CX l.prog w) 9 fa fd ["_law_script"] (spLaw K) := by
  have e := hfa.symm.trans (PySem.W.mg_of X G a_law)
  cases e
  let c : Ad := ⟨K, A_GangError, A_BadName, A_BadPolicy, A_BadEvent, A_Policy, A_fE, A_t_ORDERS, A_t_PLACES, A_t_EVICTS, A_t_FILLS⟩
  have e_BadPolicy : PySem.GErr.ErrTxt K mg "BadPolicy" A_BadPolicy A_fE := { gC := PySem.W.mg_of X G a_BadPolicy, cls := ⟨nm_BadPolicy, q_BadPolicy, N_BadPolicy, bs_BadPolicy, _, sn_BadPolicy, sub_BadPolicy, ab_BadPolicy, col_BadPolicy, dd_BadPolicy, m0_BadPolicy, m1_BadPolicy, m2_BadPolicy, m3_BadPolicy, m5_BadPolicy, xL_BadPolicy, rfl⟩, sa := esa_BadPolicy, ga := ega_BadPolicy, gg := egg_BadPolicy, noN := ens_BadPolicy, iC := ei_BadPolicy, tC := t_E, kC := ek_BadPolicy, exC := ebe_BadPolicy, tyC := ety_BadPolicy, hdC := ehd_BadPolicy, haC := eha_BadPolicy, hnC := hn0, htC := ht0, hmC := ehm_BadPolicy, fn := ⟨_, _, _, _, _, _, _, _, _, _, _, _, _, _, l_E, c_E⟩ }
  have o_Policy : OwnC K mg "Policy" A_Policy := ⟨PySem.W.mg_of X G a_Policy, ⟨pg_Policy, hd_Policy, po_Policy, sa_Policy⟩, sf_Policy, ha_Policy, hn0, ht0, hm_Policy, kit_self⟩
  have T : Txt K mg c := { kk := rfl, b_ValueError := PySem.W.mg_none_of X G z_ValueError, b_len := PySem.W.mg_none_of X G z_len, b_int := PySem.W.mg_none_of X G z_int, b_abs := PySem.W.mg_none_of X G z_abs, b_isinstance := PySem.W.mg_none_of X G z_isinstance, b_bool := PySem.W.mg_none_of X G z_bool, b_range := PySem.W.mg_none_of X G z_range, b_str := PySem.W.mg_none_of X G z_str, b_list := PySem.W.mg_none_of X G z_list, b_tuple := PySem.W.mg_none_of X G z_tuple, b_enumerate := PySem.W.mg_none_of X G z_enumerate, b_iter := PySem.W.mg_none_of X G z_iter, g_GangError := PySem.W.mg_of X G a_GangError, g_BadName := PySem.W.mg_of X G a_BadName, g_BadPolicy := PySem.W.mg_of X G a_BadPolicy, g_BadEvent := PySem.W.mg_of X G a_BadEvent, g_Policy := PySem.W.mg_of X G a_Policy, o_Policy := o_Policy, sf_Policy := sf_Policy, na_Policy_order := na_Policy_order, na_Policy_place := na_Policy_place, na_Policy_evict := na_Policy_evict, na_Policy_fill := na_Policy_fill, na_Policy_all_words := na_Policy_all_words, e_BadPolicy := e_BadPolicy, x_BadPolicy_GangError := PySem.W.exm_ref cb_GangError ch_GangError ct_GangError cs_BadPolicy_GangError, k_BadPolicy_BadPolicy := k_BadPolicy_BadPolicy, k_BadPolicy_ValueError := k_BadPolicy_ValueError, k_BadPolicy_BadName := k_BadPolicy_BadName, k_BadPolicy_BadEvent := k_BadPolicy_BadEvent, cc_Policy_ORDERS := ⟨cr_ORDERS, ca_ORDERS⟩, kt_ORDERS := ⟨_, _, _, cl_ORDERS, rfl, rfl, by rw [sizeLine_eq]; exact (by decide : (4 : Nat) ≤ 16777216), (.cons cv_u_ORDERS_0 (.cons cv_u_ORDERS_1 (.cons cv_u_ORDERS_2 (.cons cv_u_ORDERS_3 .nil))))⟩, cc_Policy_PLACES := ⟨cr_PLACES, ca_PLACES⟩, kt_PLACES := ⟨_, _, _, cl_PLACES, rfl, rfl, by rw [sizeLine_eq]; exact (by decide : (3 : Nat) ≤ 16777216), (.cons cv_u_PLACES_0 (.cons cv_u_PLACES_1 (.cons cv_u_PLACES_2 .nil)))⟩, cc_Policy_EVICTS := ⟨cr_EVICTS, ca_EVICTS⟩, kt_EVICTS := ⟨_, _, _, cl_EVICTS, rfl, rfl, by rw [sizeLine_eq]; exact (by decide : (3 : Nat) ≤ 16777216), (.cons cv_u_EVICTS_0 (.cons cv_u_EVICTS_1 (.cons cv_u_EVICTS_2 .nil)))⟩, cc_Policy_FILLS := ⟨cr_FILLS, ca_FILLS⟩, kt_FILLS := ⟨_, _, _, cl_FILLS, rfl, rfl, by rw [sizeLine_eq]; exact (by decide : (3 : Nat) ≤ 16777216), (.cons cv_u_FILLS_0 (.cons cv_u_FILLS_1 (.cons cv_u_FILLS_2 .nil)))⟩, nl_Policy := nl_Policy, nh_Policy := nh_Policy }
  have Fwrong_word := fun_mk (st := s_wrong_word) l_wrong_word c_wrong_word k_wrong_word
  have bwrong_word := Fwrong_word.binds (ps := ["words"]) fun _ _ _ _ _ _ us hl => match us, hl with | [_], _ => rfl
  have FPolicy___init__ := fun_mk (st := s_Policy___init__) l_Policy___init__ c_Policy___init__ k_Policy___init__
  have bPolicy___init__ := FPolicy___init__.binds (ps := ["self", "order", "place", "evict", "fill"]) fun _ _ _ _ _ _ us hl => match us, hl with | [_, _, _, _, _], _ => rfl
  have FPolicy_read := fun_mk (st := s_Policy_read) l_Policy_read c_Policy_read k_Policy_read
  have bPolicy_read := FPolicy_read.binds (ps := ["cls", "text"]) fun _ _ _ _ _ _ us hl => match us, hl with | [_, _], _ => rfl
  have FPolicy_text := fun_mk (st := s_Policy_text) l_Policy_text c_Policy_text k_Policy_text
  have bPolicy_text := FPolicy_text.binds (ps := ["self"]) fun _ _ _ _ _ _ us hl => match us, hl with | [_], _ => rfl
  have FPolicy___xor__ := fun_mk (st := s_Policy___xor__) l_Policy___xor__ c_Policy___xor__ k_Policy___xor__
  have bPolicy___xor__ := FPolicy___xor__.binds (ps := ["self", "other"]) fun _ _ _ _ _ _ us hl => match us, hl with | [_, _], _ => rfl
  have FPolicy___eq__ := fun_mk (st := s_Policy___eq__) l_Policy___eq__ c_Policy___eq__ k_Policy___eq__
  have bPolicy___eq__ := FPolicy___eq__.binds (ps := ["self", "other"]) fun _ _ _ _ _ _ us hl => match us, hl with | [_, _], _ => rfl
  have FPolicy___iter__ := fun_mk (st := s_Policy___iter__) l_Policy___iter__ c_Policy___iter__ k_Policy___iter__
  have bPolicy___iter__ := FPolicy___iter__.binds (ps := ["self"]) fun _ _ _ _ _ _ us hl => match us, hl with | [_], _ => rfl
  have Fall_policies := fun_mk (st := s_all_policies) l_all_policies c_all_policies k_all_policies
  have ball_policies := Fall_policies.binds (ps := []) fun _ _ _ _ _ _ us hl => match us, hl with | [], _ => rfl
  have F_law_mixed := fun_mk (st := s__law_mixed) l__law_mixed c__law_mixed k__law_mixed
  have b_law_mixed := F_law_mixed.binds (ps := ["_law_seed", "_law_k"]) fun _ _ _ _ _ _ us hl => match us, hl with | [_, _], _ => rfl
  have F_law_pool := fun_mk (st := s__law_pool) l__law_pool c__law_pool k__law_pool
  have b_law_pool := F_law_pool.binds (ps := ["_law_script", "_law_table"]) fun _ _ _ _ _ _ us hl => match us, hl with | [_, _], _ => rfl
  have F_law_sign := fun_mk (st := s__law_sign) l__law_sign c__law_sign k__law_sign
  have b_law_sign := F_law_sign.binds (ps := ["_law_number"]) fun _ _ _ _ _ _ us hl => match us, hl with | [_], _ => rfl
  have F_law_menus := fun_mk (st := s__law_menus) l__law_menus c__law_menus k__law_menus
  have b_law_menus := F_law_menus.binds (ps := []) fun _ _ _ _ _ _ us hl => match us, hl with | [], _ => rfl
  have F_law_all_words := fun_mk (st := s__law_all_words) l__law_all_words c__law_all_words k__law_all_words
  have b_law_all_words := F_law_all_words.binds (ps := ["_law_menu"]) fun _ _ _ _ _ _ us hl => match us, hl with | [_], _ => rfl
  have F_law_word := fun_mk (st := s__law_word) l__law_word c__law_word k__law_word
  have b_law_word := F_law_word.binds (ps := ["_law_menu", "_law_place", "_law_number", "_law_second"]) fun _ _ _ _ _ _ us hl => match us, hl with | [_, _, _, _], _ => rfl
  have F_law_four := fun_mk (st := s__law_four) l__law_four c__law_four k__law_four
  have b_law_four := F_law_four.binds (ps := ["_law_menu", "_law_nums"]) fun _ _ _ _ _ _ us hl => match us, hl with | [_, _], _ => rfl
  have F_law_text := fun_mk (st := s__law_text) l__law_text c__law_text k__law_text
  have b_law_text := F_law_text.binds (ps := ["_law_base", "_law_words", "_law_nums"]) fun _ _ _ _ _ _ us hl => match us, hl with | [_, _, _], _ => rfl
  have F_law_is_policy := fun_mk (st := s__law_is_policy) l__law_is_policy c__law_is_policy k__law_is_policy
  have b_law_is_policy := F_law_is_policy.binds (ps := ["_law_policy", "_law_words"]) fun _ _ _ _ _ _ us hl => match us, hl with | [_, _], _ => rfl
  have F_law_is_indexes := fun_mk (st := s__law_is_indexes) l__law_is_indexes c__law_is_indexes k__law_is_indexes
  have b_law_is_indexes := F_law_is_indexes.binds (ps := ["_law_answer", "_law_due"]) fun _ _ _ _ _ _ us hl => match us, hl with | [_, _], _ => rfl
  have F_law_class_values := fun_mk (st := s__law_class_values) l__law_class_values c__law_class_values k__law_class_values
  have b_law_class_values := F_law_class_values.binds (ps := ["_law_menu"]) fun _ _ _ _ _ _ us hl => match us, hl with | [_], _ => rfl
  have F_law_made := fun_mk (st := s__law_made) l__law_made c__law_made k__law_made
  have b_law_made := F_law_made.binds (ps := ["_law_menu", "_law_words"]) fun _ _ _ _ _ _ us hl => match us, hl with | [_, _], _ => rfl
  have F_law_read := fun_mk (st := s__law_read) l__law_read c__law_read k__law_read
  have b_law_read := F_law_read.binds (ps := ["_law_rows", "_law_text_here"]) fun _ _ _ _ _ _ us hl => match us, hl with | [_, _], _ => rfl
  have F_law_differences := fun_mk (st := s__law_differences) l__law_differences c__law_differences k__law_differences
  have b_law_differences := F_law_differences.binds (ps := ["_law_rows", "_law_at"]) fun _ _ _ _ _ _ us hl => match us, hl with | [_, _], _ => rfl
  have Flaw := fun_mk (st := s_law) l_law c_law k_law
  refine ⟨PySem.W.fnOf "law" "law" (defArgs s_law) (defBody s_law) (defScope s_law) .none kV_law dc_law pm_law an_law cd_law ct_law, fun s v => .of_eq rfl, fun base _ _ => ?_⟩
  have Gwrong_word : FnOk l.prog w K mg base (L2N.CX l.prog w) 1 f_wrong_word _ ["words"] (sp_wrong_word c) := ok_wrong_word Fwrong_word T 
  have Z_wrong_word : Fn l.prog w K mg base "wrong_word" 1 ["words"] [] (sp_wrong_word c) := ⟨_, _, _, Gwrong_word, PySem.W.mg_of X G a_wrong_word, k_wrong_word, bwrong_word, .nil⟩
  have GPolicy_text : FnOk l.prog w K mg base (L2N.CX l.prog w) 1 f_Policy_text _ ["self"] (sp_Policy_text c) := ok_Policy_text FPolicy_text T 
  have ZT_Policy_text : Mt l.prog w K mg base c.Policy "text" 1 ["self"] [] (sp_Policy_text c) := ⟨⟨_, _, _, GPolicy_text, ⟨a_Policy_text, i_Policy_text, k_Policy_text⟩, bPolicy_text, .nil⟩, o_Policy.cl⟩
  have GPolicy___xor__ : FnOk l.prog w K mg base (L2N.CX l.prog w) 1 f_Policy___xor__ _ ["self", "other"] (sp_Policy___xor__ c) := ok_Policy___xor__ FPolicy___xor__ T 
  have ZS_Policy___xor__ : Sm l.prog w K mg base c.Policy "__xor__" 1 ["self", "other"] (sp_Policy___xor__ c) := ⟨_, _, GPolicy___xor__, a_Policy___xor__, i_Policy___xor__, bPolicy___xor__⟩
  have GPolicy___eq__ : FnOk l.prog w K mg base (L2N.CX l.prog w) 1 f_Policy___eq__ _ ["self", "other"] (sp_Policy___eq__ c) := ok_Policy___eq__ FPolicy___eq__ T 
  have ZS_Policy___eq__ : Sm l.prog w K mg base c.Policy "__eq__" 1 ["self", "other"] (sp_Policy___eq__ c) := ⟨_, _, GPolicy___eq__, a_Policy___eq__, i_Policy___eq__, bPolicy___eq__⟩
  have GPolicy___iter__ : FnOk l.prog w K mg base (L2N.CX l.prog w) 1 f_Policy___iter__ _ ["self"] (sp_Policy___iter__ c) := ok_Policy___iter__ FPolicy___iter__ T 
  have ZS_Policy___iter__ : Sm l.prog w K mg base c.Policy "__iter__" 1 ["self"] (sp_Policy___iter__ c) := ⟨_, _, GPolicy___iter__, a_Policy___iter__, i_Policy___iter__, bPolicy___iter__⟩
  have G_law_mixed : FnOk l.prog w K mg base (L2N.CX l.prog w) 1 f__law_mixed _ ["_law_seed", "_law_k"] (sp__law_mixed c) := ok__law_mixed F_law_mixed T 
  have Z__law_mixed : Fn l.prog w K mg base "_law_mixed" 1 ["_law_seed", "_law_k"] [] (sp__law_mixed c) := ⟨_, _, _, G_law_mixed, PySem.W.mg_of X G a__law_mixed, k__law_mixed, b_law_mixed, .nil⟩
  have G_law_sign : FnOk l.prog w K mg base (L2N.CX l.prog w) 1 f__law_sign _ ["_law_number"] (sp__law_sign c) := ok__law_sign F_law_sign T 
  have Z__law_sign : Fn l.prog w K mg base "_law_sign" 1 ["_law_number"] [] (sp__law_sign c) := ⟨_, _, _, G_law_sign, PySem.W.mg_of X G a__law_sign, k__law_sign, b_law_sign, .nil⟩
  have G_law_menus : FnOk l.prog w K mg base (L2N.CX l.prog w) 1 f__law_menus _ [] (sp__law_menus c) := ok__law_menus F_law_menus T 
  have Z__law_menus : Fn l.prog w K mg base "_law_menus" 1 [] [] (sp__law_menus c) := ⟨_, _, _, G_law_menus, PySem.W.mg_of X G a__law_menus, k__law_menus, b_law_menus, .nil⟩
  have G_law_all_words : FnOk l.prog w K mg base (L2N.CX l.prog w) 1 f__law_all_words _ ["_law_menu"] (sp__law_all_words c) := ok__law_all_words F_law_all_words T 
  have Z__law_all_words : Fn l.prog w K mg base "_law_all_words" 1 ["_law_menu"] [] (sp__law_all_words c) := ⟨_, _, _, G_law_all_words, PySem.W.mg_of X G a__law_all_words, k__law_all_words, b_law_all_words, .nil⟩
  have G_law_is_indexes : FnOk l.prog w K mg base (L2N.CX l.prog w) 1 f__law_is_indexes _ ["_law_answer", "_law_due"] (sp__law_is_indexes c) := ok__law_is_indexes F_law_is_indexes T 
  have Z__law_is_indexes : Fn l.prog w K mg base "_law_is_indexes" 1 ["_law_answer", "_law_due"] [] (sp__law_is_indexes c) := ⟨_, _, _, G_law_is_indexes, PySem.W.mg_of X G a__law_is_indexes, k__law_is_indexes, b_law_is_indexes, .nil⟩
  have G_law_class_values : FnOk l.prog w K mg base (L2N.CX l.prog w) 1 f__law_class_values _ ["_law_menu"] (sp__law_class_values c) := ok__law_class_values F_law_class_values T 
  have Z__law_class_values : Fn l.prog w K mg base "_law_class_values" 1 ["_law_menu"] [] (sp__law_class_values c) := ⟨_, _, _, G_law_class_values, PySem.W.mg_of X G a__law_class_values, k__law_class_values, b_law_class_values, .nil⟩
  have GPolicy___init__ : FnOk l.prog w K mg base (L2N.CX l.prog w) 2 f_Policy___init__ _ ["self", "order", "place", "evict", "fill"] (sp_Policy___init__ c) := ok_Policy___init__ FPolicy___init__ T Z_wrong_word
  have ZM_Policy : Mc l.prog w K mg base "Policy" c.Policy 2 ["self", "order", "place", "evict", "fill"] [] (sp_Policy___init__ c) := ⟨_, _, _, GPolicy___init__, ⟨mk_Policy, a_Policy___init__, i_Policy___init__, kc_Policy⟩, PySem.W.mg_of X G a_Policy, bPolicy___init__, .nil⟩
  have G_law_pool : FnOk l.prog w K mg base (L2N.CX l.prog w) 2 f__law_pool _ ["_law_script", "_law_table"] (sp__law_pool c) := ok__law_pool F_law_pool T Z__law_mixed
  have Z__law_pool : Fn l.prog w K mg base "_law_pool" 2 ["_law_script", "_law_table"] [] (sp__law_pool c) := ⟨_, _, _, G_law_pool, PySem.W.mg_of X G a__law_pool, k__law_pool, b_law_pool, .nil⟩
  have G_law_word : FnOk l.prog w K mg base (L2N.CX l.prog w) 2 f__law_word _ ["_law_menu", "_law_place", "_law_number", "_law_second"] (sp__law_word c) := ok__law_word F_law_word T Z__law_sign
  have Z__law_word : Fn l.prog w K mg base "_law_word" 2 ["_law_menu", "_law_place", "_law_number", "_law_second"] [] (sp__law_word c) := ⟨_, _, _, G_law_word, PySem.W.mg_of X G a__law_word, k__law_word, b_law_word, .nil⟩
  have G_law_text : FnOk l.prog w K mg base (L2N.CX l.prog w) 2 f__law_text _ ["_law_base", "_law_words", "_law_nums"] (sp__law_text c) := ok__law_text F_law_text T Z__law_sign
  have Z__law_text : Fn l.prog w K mg base "_law_text" 2 ["_law_base", "_law_words", "_law_nums"] [] (sp__law_text c) := ⟨_, _, _, G_law_text, PySem.W.mg_of X G a__law_text, k__law_text, b_law_text, .nil⟩
  have G_law_four : FnOk l.prog w K mg base (L2N.CX l.prog w) 3 f__law_four _ ["_law_menu", "_law_nums"] (sp__law_four c) := ok__law_four F_law_four T Z__law_word
  have Z__law_four : Fn l.prog w K mg base "_law_four" 3 ["_law_menu", "_law_nums"] [] (sp__law_four c) := ⟨_, _, _, G_law_four, PySem.W.mg_of X G a__law_four, k__law_four, b_law_four, .nil⟩
  have GPolicy_read : FnOk l.prog w K mg base (L2N.CX l.prog w) 4 f_Policy_read _ ["cls", "text"] (sp_Policy_read c) := ok_Policy_read FPolicy_read T Z_wrong_word ZM_Policy
  have ZC_Policy_read : Cm l.prog w K mg base c.Policy "read" 4 ["cls", "text"] (sp_Policy_read c) := ⟨_, _, _, _, GPolicy_read, bPolicy_read, ⟨rd_Policy_read, ga_Policy_read⟩, ⟨a_Policy_read, ⟨_, sr_Policy_read⟩, fi_Policy_read⟩⟩
  have ZG_all_policies : Gn l.prog w K mg base "all_policies" 4 (sp_all_policies c) := ⟨_, _, ok_all_policies Fall_policies T ZM_Policy, PySem.W.mg_of X G a_all_policies, k_all_policies, ball_policies⟩
  have G_law_is_policy : FnOk l.prog w K mg base (L2N.CX l.prog w) 4 f__law_is_policy _ ["_law_policy", "_law_words"] (sp__law_is_policy c) := ok__law_is_policy F_law_is_policy T ZS_Policy___iter__ ZT_Policy_text
  have Z__law_is_policy : Fn l.prog w K mg base "_law_is_policy" 4 ["_law_policy", "_law_words"] [] (sp__law_is_policy c) := ⟨_, _, _, G_law_is_policy, PySem.W.mg_of X G a__law_is_policy, k__law_is_policy, b_law_is_policy, .nil⟩
  have G_law_made : FnOk l.prog w K mg base (L2N.CX l.prog w) 5 f__law_made _ ["_law_menu", "_law_words"] (sp__law_made c) := ok__law_made F_law_made T Z__law_is_policy ZM_Policy ZT_Policy_text ZC_Policy_read
  have Z__law_made : Fn l.prog w K mg base "_law_made" 5 ["_law_menu", "_law_words"] [] (sp__law_made c) := ⟨_, _, _, G_law_made, PySem.W.mg_of X G a__law_made, k__law_made, b_law_made, .nil⟩
  have G_law_read : FnOk l.prog w K mg base (L2N.CX l.prog w) 5 f__law_read _ ["_law_rows", "_law_text_here"] (sp__law_read c) := ok__law_read F_law_read T Z__law_is_policy ZC_Policy_read
  have Z__law_read : Fn l.prog w K mg base "_law_read" 5 ["_law_rows", "_law_text_here"] [] (sp__law_read c) := ⟨_, _, _, G_law_read, PySem.W.mg_of X G a__law_read, k__law_read, b_law_read, .nil⟩
  have G_law_differences : FnOk l.prog w K mg base (L2N.CX l.prog w) 8 f__law_differences _ ["_law_rows", "_law_at"] (sp__law_differences c) := ok__law_differences F_law_differences T Z__law_is_policy Z__law_is_indexes ZS_Policy___xor__ ZS_Policy___eq__ ZG_all_policies
  have Z__law_differences : Fn l.prog w K mg base "_law_differences" 8 ["_law_rows", "_law_at"] [] (sp__law_differences c) := ⟨_, _, _, G_law_differences, PySem.W.mg_of X G a__law_differences, k__law_differences, b_law_differences, .nil⟩
  exact ok_law Flaw T Z__law_read Z__law_made Z__law_differences Z__law_class_values Z__law_text Z__law_four Z__law_all_words Z__law_menus Z__law_pool
theorem walk {l : PySem.W.OpenLaw} {q : Program} {loose : List Str} {XP : (Str → Option Value) → Heap → Prop} {YP : World → Heap → Prop} {d : DefRec} {K : Params → PySem.W.Frag} (hn : l.most = some 63) (hdf : d.params.defaults = [])
    (hY : ∀ (w : World) (h : Heap), YP w h → (K w.params).In h)
    (F : ∀ (w : World) (mg : Str → Option Value) (fa : Addr) (h : Heap), (K w.params).In h → h.Ns mainGlobals mg → mg d.name = some (.ref fa) →
      ∃ fd : FuncData, (∀ (s : Shared) (u : Value), BindsTo s fd ⟨[u], []⟩ [("_law_script", u)]) ∧ ∀ base : Heap, (K w.params).In base → base.Ns mainGlobals mg → FnOk l.prog w (K w.params) mg base (L2N.CX l.prog w) 9 fa fd ["_law_script"] (spLaw (K w.params))) :
    PySem.W.WalkO q loose XP YP l.row.toRowW d [] (fun f vs => PySem.call f vs) :=
  L2.walk_ofB (n := 63) (k := 9) (x := "_law_script") (CX := fun w => L2N.CX l.prog w) (sp := fun w => spLaw (K w.params)) hn (by decide) hdf ⟨rfl, by decide, by decide⟩ hY F (fun _ _ a ns hl hb _ hS => ⟨rfl, a, ns, rfl, hS, hl, hb, fun _ => rfl⟩)
    fun _ _ _ _ _ h => by
      obtain ⟨_, _, _, _, _, _, _, _, _, _, _, _, z⟩ := h
      exact z.elim
end K34
open PySem PySem.W PyProof.Rows in
set_option maxRecDepth 100000 in
set_option maxHeartbeats 0 in
theorem PySem.Challenge.cw_gangbooks_k34_policy_words_holds : PySem.Challenge.rw_gangbooks_k34_policy_words.Holds := by
  w_on; o_law; k_head; (case hw => w_witness2)
  k_fill
  refine K34.walk (l := PySem.Challenge.rw_gangbooks_k34_policy_words) rfl rfl (fun w h Y => PySem.W.kIn_of Y) ?F
  case F =>
    intro w mg fa h KX G hmg
    refine' K34.all_mk KX G hmg ?z_ValueError ?z_len ?z_int ?z_abs ?z_isinstance ?z_bool ?z_range ?z_str ?z_list ?z_tuple ?z_enumerate ?z_iter ?a_GangError ?a_BadName ?a_BadPolicy ?a_BadEvent ?a_Policy ?cr_ORDERS ?ca_ORDERS ?cl_ORDERS ?cv_u_ORDERS_0 ?cv_u_ORDERS_1 ?cv_u_ORDERS_2 ?cv_u_ORDERS_3 ?cr_PLACES ?ca_PLACES ?cl_PLACES ?cv_u_PLACES_0 ?cv_u_PLACES_1 ?cv_u_PLACES_2 ?cr_EVICTS ?ca_EVICTS ?cl_EVICTS ?cv_u_EVICTS_0 ?cv_u_EVICTS_1 ?cv_u_EVICTS_2 ?cr_FILLS ?ca_FILLS ?cl_FILLS ?cv_u_FILLS_0 ?cv_u_FILLS_1 ?cv_u_FILLS_2 ?nl_Policy ?nh_Policy ?hn0 ?ht0 ?pg_Policy ?hd_Policy ?po_Policy ?sa_Policy ?mk_Policy ?kc_Policy ?sf_Policy ?ha_Policy ?hm_Policy ?na_Policy_order ?na_Policy_place ?na_Policy_evict ?na_Policy_fill ?na_Policy_all_words ?ei_BadPolicy ?l_E ?c_E ?t_E ?xL_BadPolicy ?esa_BadPolicy ?ega_BadPolicy ?egg_BadPolicy ?ens_BadPolicy ?ek_BadPolicy ?ebe_BadPolicy ?ety_BadPolicy ?ehd_BadPolicy ?eha_BadPolicy ?ehm_BadPolicy ?cb_GangError ?ch_GangError ?ct_GangError ?cs_BadPolicy_GangError ?k_BadPolicy_BadPolicy ?k_BadPolicy_ValueError ?k_BadPolicy_BadName ?k_BadPolicy_BadEvent ?a_wrong_word ?l_wrong_word ?c_wrong_word ?k_wrong_word ?a_Policy___init__ ?i_Policy___init__ ?l_Policy___init__ ?c_Policy___init__ ?k_Policy___init__ ?rd_Policy_read ?ga_Policy_read ?a_Policy_read ?sr_Policy_read ?fi_Policy_read ?l_Policy_read ?c_Policy_read ?k_Policy_read ?a_Policy_text ?i_Policy_text ?l_Policy_text ?c_Policy_text ?k_Policy_text ?a_Policy___xor__ ?i_Policy___xor__ ?l_Policy___xor__ ?c_Policy___xor__ ?k_Policy___xor__ ?a_Policy___eq__ ?i_Policy___eq__ ?l_Policy___eq__ ?c_Policy___eq__ ?k_Policy___eq__ ?a_Policy___iter__ ?i_Policy___iter__ ?l_Policy___iter__ ?c_Policy___iter__ ?k_Policy___iter__ ?a_all_policies ?l_all_policies ?c_all_policies ?k_all_policies ?a__law_mixed ?l__law_mixed ?c__law_mixed ?k__law_mixed ?a__law_pool ?l__law_pool ?c__law_pool ?k__law_pool ?a__law_sign ?l__law_sign ?c__law_sign ?k__law_sign ?a__law_menus ?l__law_menus ?c__law_menus ?k__law_menus ?a__law_all_words ?l__law_all_words ?c__law_all_words ?k__law_all_words ?a__law_word ?l__law_word ?c__law_word ?k__law_word ?a__law_four ?l__law_four ?c__law_four ?k__law_four ?a__law_text ?l__law_text ?c__law_text ?k__law_text ?a__law_is_policy ?l__law_is_policy ?c__law_is_policy ?k__law_is_policy ?a__law_is_indexes ?l__law_is_indexes ?c__law_is_indexes ?k__law_is_indexes ?a__law_class_values ?l__law_class_values ?c__law_class_values ?k__law_class_values ?a__law_made ?l__law_made ?c__law_made ?k__law_made ?a__law_read ?l__law_read ?c__law_read ?k__law_read ?a__law_differences ?l__law_differences ?c__law_differences ?k__law_differences ?a_law ?l_law ?c_law ?k_law
    (case z_ValueError => k_is)
    (case z_len => k_is)
    (case z_int => k_is)
    (case z_abs => k_is)
    (case z_isinstance => k_is)
    (case z_bool => k_is)
    (case z_range => k_is)
    (case z_str => k_is)
    (case z_list => k_is)
    (case z_tuple => k_is)
    (case z_enumerate => k_is)
    (case z_iter => k_is)
    (case a_GangError => k_is)
    (case a_BadName => k_is)
    (case a_BadPolicy => k_is)
    (case a_BadEvent => k_is)
    (case a_Policy => k_is)
    (case cr_ORDERS => k_is)
    (case ca_ORDERS => k_is)
    (case cl_ORDERS => k_is)
    (case cv_u_ORDERS_0 => first | exact ⟨_, rfl⟩ | exact ⟨_, by decide +kernel⟩)
    (case cv_u_ORDERS_1 => first | exact ⟨_, rfl⟩ | exact ⟨_, by decide +kernel⟩)
    (case cv_u_ORDERS_2 => first | exact ⟨_, rfl⟩ | exact ⟨_, by decide +kernel⟩)
    (case cv_u_ORDERS_3 => first | exact ⟨_, rfl⟩ | exact ⟨_, by decide +kernel⟩)
    (case cr_PLACES => k_is)
    (case ca_PLACES => k_is)
    (case cl_PLACES => k_is)
    (case cv_u_PLACES_0 => first | exact ⟨_, rfl⟩ | exact ⟨_, by decide +kernel⟩)
    (case cv_u_PLACES_1 => first | exact ⟨_, rfl⟩ | exact ⟨_, by decide +kernel⟩)
    (case cv_u_PLACES_2 => first | exact ⟨_, rfl⟩ | exact ⟨_, by decide +kernel⟩)
    (case cr_EVICTS => k_is)
    (case ca_EVICTS => k_is)
    (case cl_EVICTS => k_is)
    (case cv_u_EVICTS_0 => first | exact ⟨_, rfl⟩ | exact ⟨_, by decide +kernel⟩)
    (case cv_u_EVICTS_1 => first | exact ⟨_, rfl⟩ | exact ⟨_, by decide +kernel⟩)
    (case cv_u_EVICTS_2 => first | exact ⟨_, rfl⟩ | exact ⟨_, by decide +kernel⟩)
    (case cr_FILLS => k_is)
    (case ca_FILLS => k_is)
    (case cl_FILLS => k_is)
    (case cv_u_FILLS_0 => first | exact ⟨_, rfl⟩ | exact ⟨_, by decide +kernel⟩)
    (case cv_u_FILLS_1 => first | exact ⟨_, rfl⟩ | exact ⟨_, by decide +kernel⟩)
    (case cv_u_FILLS_2 => first | exact ⟨_, rfl⟩ | exact ⟨_, by decide +kernel⟩)
    (case nl_Policy => k_is)
    (case nh_Policy => k_is)
    (case hn0 => k_is)
    (case ht0 => k_is)
    (case pg_Policy => k_is)
    (case hd_Policy => k_is)
    (case po_Policy => k_is)
    (case sa_Policy => k_is)
    (case mk_Policy => k_is)
    (case kc_Policy => k_is)
    (case sf_Policy => k_is)
    (case ha_Policy => k_is)
    (case hm_Policy => k_is)
    (case na_Policy_order => k_is)
    (case na_Policy_place => k_is)
    (case na_Policy_evict => k_is)
    (case na_Policy_fill => k_is)
    (case na_Policy_all_words => k_is)
    (case ei_BadPolicy => k_is)
    (case l_E => k_is)
    (case c_E => k_is)
    (case t_E => k_is)
    (case xL_BadPolicy => k_is)
    (case esa_BadPolicy => k_is)
    (case ega_BadPolicy => k_is)
    (case egg_BadPolicy => k_is)
    (case ens_BadPolicy => k_is)
    (case ek_BadPolicy => k_is)
    (case ebe_BadPolicy => k_is)
    (case ety_BadPolicy => k_is)
    (case ehd_BadPolicy => k_is)
    (case eha_BadPolicy => k_is)
    (case ehm_BadPolicy => k_is)
    (case cb_GangError => k_is)
    (case ch_GangError => k_is)
    (case ct_GangError => k_is)
    (case cs_BadPolicy_GangError => first | rfl | k_is)
    (case k_BadPolicy_BadPolicy => first | kit_is | k_is)
    (case k_BadPolicy_ValueError => first | kit_is | k_is)
    (case k_BadPolicy_BadName => first | kit_is | k_is)
    (case k_BadPolicy_BadEvent => first | kit_is | k_is)
    (case a_wrong_word => k_is)
    (case l_wrong_word => k_is)
    (case c_wrong_word => k_is)
    (case k_wrong_word => k_is)
    (case a_Policy___init__ => k_is)
    (case i_Policy___init__ => k_is)
    (case l_Policy___init__ => k_is)
    (case c_Policy___init__ => k_is)
    (case k_Policy___init__ => k_is)
    (case rd_Policy_read => k_is)
    (case ga_Policy_read => k_is)
    (case a_Policy_read => k_is)
    (case sr_Policy_read => k_is)
    (case fi_Policy_read => k_is)
    (case l_Policy_read => k_is)
    (case c_Policy_read => k_is)
    (case k_Policy_read => k_is)
    (case a_Policy_text => k_is)
    (case i_Policy_text => k_is)
    (case l_Policy_text => k_is)
    (case c_Policy_text => k_is)
    (case k_Policy_text => k_is)
    (case a_Policy___xor__ => k_is)
    (case i_Policy___xor__ => k_is)
    (case l_Policy___xor__ => k_is)
    (case c_Policy___xor__ => k_is)
    (case k_Policy___xor__ => k_is)
    (case a_Policy___eq__ => k_is)
    (case i_Policy___eq__ => k_is)
    (case l_Policy___eq__ => k_is)
    (case c_Policy___eq__ => k_is)
    (case k_Policy___eq__ => k_is)
    (case a_Policy___iter__ => k_is)
    (case i_Policy___iter__ => k_is)
    (case l_Policy___iter__ => k_is)
    (case c_Policy___iter__ => k_is)
    (case k_Policy___iter__ => k_is)
    (case a_all_policies => k_is)
    (case l_all_policies => k_is)
    (case c_all_policies => k_is)
    (case k_all_policies => k_is)
    (case a__law_mixed => k_is)
    (case l__law_mixed => k_is)
    (case c__law_mixed => k_is)
    (case k__law_mixed => k_is)
    (case a__law_pool => k_is)
    (case l__law_pool => k_is)
    (case c__law_pool => k_is)
    (case k__law_pool => k_is)
    (case a__law_sign => k_is)
    (case l__law_sign => k_is)
    (case c__law_sign => k_is)
    (case k__law_sign => k_is)
    (case a__law_menus => k_is)
    (case l__law_menus => k_is)
    (case c__law_menus => k_is)
    (case k__law_menus => k_is)
    (case a__law_all_words => k_is)
    (case l__law_all_words => k_is)
    (case c__law_all_words => k_is)
    (case k__law_all_words => k_is)
    (case a__law_word => k_is)
    (case l__law_word => k_is)
    (case c__law_word => k_is)
    (case k__law_word => k_is)
    (case a__law_four => k_is)
    (case l__law_four => k_is)
    (case c__law_four => k_is)
    (case k__law_four => k_is)
    (case a__law_text => k_is)
    (case l__law_text => k_is)
    (case c__law_text => k_is)
    (case k__law_text => k_is)
    (case a__law_is_policy => k_is)
    (case l__law_is_policy => k_is)
    (case c__law_is_policy => k_is)
    (case k__law_is_policy => k_is)
    (case a__law_is_indexes => k_is)
    (case l__law_is_indexes => k_is)
    (case c__law_is_indexes => k_is)
    (case k__law_is_indexes => k_is)
    (case a__law_class_values => k_is)
    (case l__law_class_values => k_is)
    (case c__law_class_values => k_is)
    (case k__law_class_values => k_is)
    (case a__law_made => k_is)
    (case l__law_made => k_is)
    (case c__law_made => k_is)
    (case k__law_made => k_is)
    (case a__law_read => k_is)
    (case l__law_read => k_is)
    (case c__law_read => k_is)
    (case k__law_read => k_is)
    (case a__law_differences => k_is)
    (case l__law_differences => k_is)
    (case c__law_differences => k_is)
    (case k__law_differences => k_is)
    (case a_law => k_is)
    (case l_law => k_is)
    (case c_law => k_is)
    (case k_law => k_is)
