import PyProof.Rows.All
import Wide.All
import OpenK.AllK
import Wide.FinOn
import PyProof.InstNe
import HandS.ForMost
import HandS.ForExc
import HandS.Wide
import HandS.Defaults
import HandS.Star
import HandS.More
import HandS.IsInst
import HandS.SlotsOwn
import HandS.ExcInit
import HandS.ExcSuper
import KE.KExcSuper
import HandS.ExcField
import HandS.ExcIs
import HandS.TryOnly
import HandS.TryMany
import HandS.HotCalls
import KE.KExcIs
import HandS.ExcOwn
import HandS.RaiseMore
import PySem.Challenge.RW_lentbytes_k06_windows_that_meet
set_option Elab.async false
set_option linter.all false
set_option maxRecDepth 100000
set_option maxHeartbeats 4000000
/-! Lb0: calls by FnR with a wish that may hang on the slots; operators of own classes. -/
namespace Lb
open PySem PySem.Spec PyProof.Rows L2

section
variable {P : Program} {w : World} {K : PySem.W.Frag} {mg : Str → Option Value} {base : Heap} {CX : CXT} {k : Nat} {f : Addr} {sp : Sp}
theorem FnOk.r0 {fd : FuncData} {ps : List Str} (F : FnOk P w K mg base CX k f fd ps sp) (hb : Binds K fd ps []) : FnR P w K mg base CX k f sp :=
  (F.raw hb .nil).imp fun vs H Q E h => by rw [List.append_nil]; exact h
end

section
variable {X : Cx} {CX : CXT} {k : Nat} {f C : Addr} {sp : Sp} {E : L2.St → XK} {x m : Str} {p pos apos : Pos} {e o : Expr} {es : List Expr} {ta : TE} {t : TA}

/-- the callee runs, the wish at these slots -/
theorem run_fnX {pins : List (Addr × Obj)} {σ : L2.St} {H : Hp} {s : Shared} {Q : VK} {us : List Value} {vs : List V} (F : FnR X.prog X.w X.K X.mg X.base CX k f sp) (hr : Room k X.A) (hx : PassesAt CX X σ (E σ))
    (I : Inv X pins σ H s) (r : Vals vs us) (h : sp vs H Q (E σ)) : wpAny (model X.prog X.w) X.A (call (.ref f) us) (EP X pins σ Q) X.xe s := by
  refine wpAny_call (codeAny_mono (F X.A X.stack s H us vs Q (E σ) hr I.env0 r h) fun r s' hq => ?_)
  cases r with
  | error e => exact hx pins H s e s' I hq
  | ok fl =>
    cases fl with
    | ret u => exact I.after hq
    | next => exact False.elim hq
    | brk => exact False.elim hq
    | cont => exact False.elim hq

/-- f(..) -/
def tCallX (sp : Sp) (E : L2.St → XK) (t : TA) : TE := fun σ H Q => t σ H fun vs H1 => sp vs H1 Q (E σ)
theorem pe_callX (F : FnR X.prog X.w X.K X.mg X.base CX k f sp) (hr : Room k X.A) (hg : Gl X x) (hm : X.mg x = some (.ref f)) (hk : PySem.W.keepIn X.K (.ref f) = true) (hx : ∀ σ, PassesAt CX X σ (E σ))
    (ha : PA X (e :: es) t) (hdb : (x == ("__debug__" : Str)) = false := by decide) (he : starEach (e :: es) X.env = (false, eval e X.env) :: starEach es X.env := by rfl) (hpl : (backTo pos (starEach es X.env)).any (·.1) = false := by rfl) :
    PE X (.Call (.Name x p) (e :: es) [] pos) (tCallX sp E t) := by
  refine ⟨fun pins s σ H Q I h => ?_⟩
  refine wpAny_Call_Name_kw (ld_glob I hg hm ?_ hdb)
  refine PySem.W.callWith_K (h₀ := X.base) I.ok.mod.kin hk (thn (ha.run pos pins s σ H _ I h) fun us s1 ⟨vs, H1, I1, r, q⟩ => ⟨I1.kIn, ?_⟩) he hpl
  exact run_fnX F hr (hx σ) I1 r q
theorem pe_callX0 (F : FnR X.prog X.w X.K X.mg X.base CX k f sp) (hr : Room k X.A) (hg : Gl X x) (hm : X.mg x = some (.ref f)) (hk : PySem.W.keepIn X.K (.ref f) = true) (hx : ∀ σ, PassesAt CX X σ (E σ))
    (hdb : (x == ("__debug__" : Str)) = false := by decide) : PE X (.Call (.Name x p) [] [] pos) (tCallX sp E tNil) := by
  refine ⟨fun pins s σ H Q I h => ?_⟩
  refine wpAny_Call_Name_kw (ld_glob I hg hm ?_ hdb)
  exact PySem.W.callWith_K0 I.kIn hk (run_fnX (us := []) F hr (hx σ) I .nil h)

/-- o.m(..) of an instance of the class at C -/
def tMethX (C : Addr) (m : Str) (sp : Sp) (E : L2.St → XK) (ta : TE) (t : TA) : TE := fun σ H Q => ta σ H fun x H1 => ∃ a dx fs, x = .ref a ∧ H1 a = some (.ins C dx fs) ∧ fs.lookup m = none ∧
  t σ H1 fun vs H2 => sp (x :: vs) H2 Q (E σ)
theorem pe_methX {pl : Sem Bool} (he : PE X o ta) (c : Cls X.K C) (hm : Meth X.K C m f) (F : FnR X.prog X.w X.K X.mg X.base CX k f sp) (hr : Room k X.A) (hx : ∀ σ, PassesAt CX X σ (E σ)) (ha : PA X (e :: es) t)
    (hst : starEach (e :: es) X.env = (false, eval e X.env) :: starEach es X.env := by rfl) (hpl : (backTo pos (starEach es X.env)).any (·.1) = false := by rfl)
    (ht : eval (.Call (.Attribute o m apos) (e :: es) [] pos) X.env = (do
      let ov ← eval o X.env
      standAt apos.atName
      let (f, first) ← holding [ov] (getMethod ov m pl)
      callWith pos f first (backTo pos (starEach (e :: es) X.env)) (backToKw pos (keywordEach [] X.env))) := by rfl) :
    PE X (.Call (.Attribute o m apos) (e :: es) [] pos) (tMethX C m sp E ta t) := by
  refine ⟨fun pins s σ H Q I h => ?_⟩
  refine PySem.W.methodCall_KW (pl := pl) (thn (he.run pins s σ H _ I h) fun u s1 ⟨x, H1, I1, rx, a, dx, fs, ex, ea, l, q⟩ => ?_) ht
  subst ex
  obtain rfl : u = Value.ref a := rx
  refine getmeth_ok I1 ea c hm l ?_
  refine PySem.W.callWith_K (first := [.ref a]) (h₀ := X.base) I.ok.mod.kin hm.kp (thn (ha.run pos pins s1 σ H1 _ I1 q) fun us s2 ⟨vs, H2, I2, r, q2⟩ => ⟨I2.kIn, ?_⟩) hst hpl
  exact run_fnX (us := .ref a :: us) (vs := .ref a :: vs) F hr (hx σ) I2 (.cons rfl r) q2
theorem pe_methX0 {pl : Sem Bool} (he : PE X o ta) (c : Cls X.K C) (hm : Meth X.K C m f) (F : FnR X.prog X.w X.K X.mg X.base CX k f sp) (hr : Room k X.A) (hx : ∀ σ, PassesAt CX X σ (E σ))
    (ht : eval (.Call (.Attribute o m apos) [] [] pos) X.env = (do
      let ov ← eval o X.env
      standAt apos.atName
      let (f, first) ← holding [ov] (getMethod ov m pl)
      callWith pos f first (backTo pos (starEach [] X.env)) (backToKw pos (keywordEach [] X.env))) := by rfl) :
    PE X (.Call (.Attribute o m apos) [] [] pos) (tMethX C m sp E ta tNil) := by
  refine ⟨fun pins s σ H Q I h => ?_⟩
  refine PySem.W.methodCall_KW (pl := pl) (thn (he.run pins s σ H _ I h) fun u s1 ⟨x, H1, I1, rx, a, dx, fs, ex, ea, l, q⟩ => ?_) ht
  subst ex
  obtain rfl : u = Value.ref a := rx
  refine getmeth_ok I1 ea c hm l ?_
  exact PySem.W.callWith_K0 (first := [.ref a]) I1.kIn hm.kp (run_fnX (us := [.ref a]) (vs := [.ref a]) F hr (hx σ) I1 (.cons rfl .nil) q)

/-- C(..) -/
def tMakeX (C : Addr) (sp : Sp) (E : L2.St → XK) (t : TA) : TE := fun σ H Q => t σ H fun vs H1 => ∀ x dx, H1 x = none → H1 dx = none → dx ≠ x →
  sp (.ref x :: vs) (upd (upd H1 dx (.own x)) x (.ins C dx [])) (fun v H2 => v = .non ∧ Q (.ref x) H2) (E σ)
theorem run_makeX {pins : List (Addr × Obj)} {σ : L2.St} {H : Hp} {s : Shared} {Q : VK} {us : List Value} {vs : List V} (M : Mk X.K C f) (F : FnR X.prog X.w X.K X.mg X.base CX k f sp) (hr : Room (k + 1) X.A)
    (hx : PassesAt CX X σ (E σ)) (I : Inv X pins σ H s) (r : Vals vs us)
    (h : ∀ x dx, H x = none → H dx = none → dx ≠ x → sp (.ref x :: vs) (upd (upd H dx (.own x)) x (.ins C dx [])) (fun v H2 => v = .non ∧ Q (.ref x) H2) (E σ)) :
    wpAny (model X.prog X.w) X.A (call (.ref C) us) (EP X pins σ Q) X.xe s := by
  have hq := h (s.heap.objs.size + 1) s.heap.objs.size (I.hok.fresh (Nat.le_succ _)) (I.hok.fresh (Nat.le_refl _)) (Nat.ne_of_lt (Nat.lt_succ_self _))
  have I2 := Inv.made (C := C) I
  have r2 : Vals (V.ref (s.heap.objs.size + 1) :: vs) (Value.ref (s.heap.objs.size + 1) :: us) := .cons rfl r
  refine wpAny_call (make_map (f := f) I.kIn M.makes M.init (beq_iff_eq.mp M.fn) (codeAny_mono (F _ X.stack _ _ (Value.ref (s.heap.objs.size + 1) :: us) _ _ (E σ) (hr.make C us [])
    (I2.env0.make C us []) r2 hq) fun r s' hq' => ?_))
  cases r with
  | error e => exact hx pins _ _ e s' I2 hq'
  | ok fl =>
    cases fl with
    | ret u =>
      obtain ⟨v, H', I3, rv, ev, q3⟩ := I2.after hq'
      subst ev
      exact ⟨rv, ⟨V.ref (s.heap.objs.size + 1), H', I3, rfl, q3⟩⟩
    | next => exact False.elim hq'
    | brk => exact False.elim hq'
    | cont => exact False.elim hq'
theorem pe_makeX (M : Mk X.K C f) (F : FnR X.prog X.w X.K X.mg X.base CX k f sp) (hr : Room (k + 1) X.A) (hg : Gl X x) (hm : X.mg x = some (.ref C)) (hx : ∀ σ, PassesAt CX X σ (E σ))
    (ha : PA X (e :: es) t) (hdb : (x == ("__debug__" : Str)) = false := by decide) (he : starEach (e :: es) X.env = (false, eval e X.env) :: starEach es X.env := by rfl) (hpl : (backTo pos (starEach es X.env)).any (·.1) = false := by rfl) :
    PE X (.Call (.Name x p) (e :: es) [] pos) (tMakeX C sp E t) := by
  refine ⟨fun pins s σ H Q I h => ?_⟩
  refine wpAny_Call_Name_kw (ld_glob I hg hm ?_ hdb)
  refine PySem.W.callWith_K (h₀ := X.base) I.ok.mod.kin M.kp (thn (ha.run pos pins s σ H _ I h) fun us s1 ⟨vs, H1, I1, r, q⟩ => ⟨I1.kIn, ?_⟩) he hpl
  exact run_makeX M F hr (hx σ) I1 r q
theorem pe_makeX0 (M : Mk X.K C f) (F : FnR X.prog X.w X.K X.mg X.base CX k f sp) (hr : Room (k + 1) X.A) (hg : Gl X x) (hm : X.mg x = some (.ref C)) (hx : ∀ σ, PassesAt CX X σ (E σ))
    (hdb : (x == ("__debug__" : Str)) = false := by decide) : PE X (.Call (.Name x p) [] [] pos) (tMakeX C sp E tNil) := by
  refine ⟨fun pins s σ H Q I h => ?_⟩
  refine wpAny_Call_Name_kw (ld_glob I hg hm ?_ hdb)
  exact PySem.W.callWith_K0 I.kIn M.kp (run_makeX (us := []) M F hr (hx σ) I .nil h)

/-! ### operators of own classes -/
theorem inst_at {pins : List (Addr × Obj)} {σ : L2.St} {H : Hp} {s : Shared} {a C dx : Addr} {fs : List (Str × V)} (I : Inv X pins σ H s) (h : H a = some (.ins C dx fs)) : ∃ ox od, PySem.W.InstAt s.heap a ox C od := by
  obtain ⟨mA, O, _⟩ := ins_get I.hok h
  obtain ⟨od, J, _⟩ := O.look
  exact ⟨_, _, J⟩
/-- the class says the name itself, by a def -/
structure OwnDef (K : PySem.W.Frag) (C : Addr) (nm : Str) (f : Addr) : Prop where
  at_ : PySem.W.findIn K (.ref C) nm = some (some (.ref f))
  fn : PySem.W.isFn K (.ref f) = true
theorem cmp_back {pins : List (Addr × Obj)} {σ : L2.St} {Q : VK} {v : Value} {s' : Shared} (h : EP X pins σ Q v s') : PySem.W.CmpBack (EP X pins σ Q) v s' := by
  obtain ⟨z, H', I', r, q⟩ := h
  exact SlX.cmpback r ⟨z, H', I', r, q⟩
/-- x op y, both of the class at C -/
def rOwn2 (C : Addr) (sp : Sp) (E : XK) : R2 := fun x y H Q => ∃ a b dx dy fs gs, x = .ref a ∧ y = .ref b ∧ H a = some (.ins C dx fs) ∧ H b = some (.ins C dy gs) ∧ sp [.ref a, .ref b] H Q E
theorem op_own2 {op : Operator} {E : XK} (hc : PySem.W.selfFirst X.K C = true) (o : OwnDef X.K C (PySem.dunder op.info.2) f) (F : FnR X.prog X.w X.K X.mg X.base CX k f sp) (hr : Room k X.A) (hx : Passes CX X E) :
    OpR X (binaryOp op) (rOwn2 C sp E) := by
  intro pins s σ H x y v u Q I rx ry h
  obtain ⟨a, b, dx, dy, fs, gs, rfl, rfl, ha, hb, q⟩ := h
  obtain rfl : v = Value.ref a := rx
  obtain rfl : u = Value.ref b := ry
  obtain ⟨ox, od, J⟩ := inst_at I ha
  obtain ⟨oy, oe, J'⟩ := inst_at I hb
  obtain ⟨m, fr⟩ := I.fr
  refine PySem.W.binop_K fr I.ok.mod.kin J J'.type hc o.at_ o.fn ?_
  exact wpAny_mono (run_fnX (E := fun _ => E) (vs := [.ref a, .ref b]) (us := [.ref a, .ref b]) F hr (fun pins H s e s' => hx pins σ H s e s') I (.cons rfl (.cons rfl .nil)) q) (fun _ _ z => cmp_back z) fun _ _ z => z
/-- x op n, n an int -/
def rOwnI (C : Addr) (sp : Sp) (E : XK) : R2 := fun x y H Q => ∃ a dx fs i, x = .ref a ∧ y = .int i ∧ H a = some (.ins C dx fs) ∧ sp [.ref a, .int i] H Q E
theorem op_ownI {op : Operator} {E : XK} (hc : PySem.W.selfFirst X.K C = true) (o : OwnDef X.K C (PySem.dunder op.info.2) f) (hr' : PySem.W.findIn X.K (.ref C) (PySem.dunderR op.info.2) = some none)
    (h1 : ∃ fo, PySem.W.findIn X.K (.type "int") (PySem.dunder op.info.2) = some fo) (h2 : ∃ fo, PySem.W.findIn X.K (.type "int") (PySem.dunderR op.info.2) = some fo) (hsub : PySem.W.subIn X.K (.type "int") (.ref C) = some false)
    (F : FnR X.prog X.w X.K X.mg X.base CX k f sp) (hr : Room k X.A) (hx : Passes CX X E) :
    OpR X (binaryOp op) (rOwnI C sp E) := by
  intro pins s σ H x y v u Q I rx ry h
  obtain ⟨a, dx, fs, i, rfl, rfl, ha, q⟩ := h
  obtain ⟨fo, h1⟩ := h1
  obtain ⟨ro, h2⟩ := h2
  obtain rfl : v = Value.ref a := rx
  obtain ⟨tk, rfl⟩ : ∃ tk, u = Value.int i tk := ry
  obtain ⟨ox, od, J⟩ := inst_at I ha
  obtain ⟨m, fr⟩ := I.fr
  refine PySem.W.ksp_binT (T := "int") (rc := none) fr I.ok.mod.kin J rfl hc o.at_ o.fn hr' (.inl rfl) h1 h2 hsub ?_
  exact wpAny_mono (run_fnX (E := fun _ => E) (vs := [.ref a, .int i]) (us := [.ref a, .int i tk]) F hr (fun pins H s e s' => hx pins σ H s e s') I (.cons rfl (.cons ⟨tk, rfl⟩ .nil)) q) (fun _ _ z => cmp_back z) fun _ _ z => z
/-- -x -/
def rOwnU (C : Addr) (sp : Sp) (E : XK) : V → Hp → VK → Prop := fun x H Q => ∃ a dx fs, x = .ref a ∧ H a = some (.ins C dx fs) ∧ sp [.ref a] H Q E
theorem un_own {E : XK} (o : OwnDef X.K C "__neg__" f) (F : FnR X.prog X.w X.K X.mg X.base CX k f sp) (hr : Room k X.A) (hx : Passes CX X E) :
    UnR X (unaryOp .USub) (rOwnU C sp E) := by
  intro pins s σ H x v Q I rx h
  obtain ⟨a, dx, fs, rfl, ha, q⟩ := h
  obtain rfl : v = Value.ref a := rx
  obtain ⟨ox, od, J⟩ := inst_at I ha
  obtain ⟨m, fr⟩ := I.fr
  refine PySem.W.ksp_neg fr I.ok.mod.kin J o.at_ o.fn ?_
  exact run_fnX (E := fun _ => E) (vs := [.ref a]) (us := [.ref a]) F hr (fun pins H s e s' => hx pins σ H s e s') I (.cons rfl .nil) q
/-- x == y -/
theorem op_eqOwn {E : XK} (o : OwnDef X.K C "__eq__" f) (F : FnR X.prog X.w X.K X.mg X.base CX k f sp) (hr : Room k X.A) (hx : Passes CX X E) :
    OpR X (compareOp .Eq) (rOwn2 C sp E) := by
  intro pins s σ H x y v u Q I rx ry h
  obtain ⟨a, b, dx, dy, fs, gs, rfl, rfl, ha, hb, q⟩ := h
  obtain rfl : v = Value.ref a := rx
  obtain rfl : u = Value.ref b := ry
  obtain ⟨ox, od, J⟩ := inst_at I ha
  obtain ⟨oy, oe, J'⟩ := inst_at I hb
  obtain ⟨m, fr⟩ := I.fr
  show wpAny _ _ (richCompare .Eq _ _) _ _ _
  refine PySem.W.cmp_K hr.units0 fr I.ok.mod.kin J J'.type (by unfold PySem.W.notFirst; simp) o.at_ o.fn ?_
  exact wpAny_mono (run_fnX (E := fun _ => E) (vs := [.ref a, .ref b]) (us := [.ref a, .ref b]) F hr (fun pins H s e s' => hx pins σ H s e s') I (.cons rfl (.cons rfl .nil)) q) (fun _ _ z => cmp_back z) fun _ _ z => z
end
end Lb

namespace Lb
open PySem PySem.Spec PyProof.Rows L2
section
open PySem.W
variable {prog : Program} {w : World} {A : Around} {E : Value → Shared → Prop} {s : Shared} {K : Frag} {x C f : Addr} {ox : Obj} {od : Option Obj} {name : Str} {b : Value}
theorem ifBound_B {M : Model} {id : String} {args : List Value} {Q : Option Value → Shared → Prop} (S : Slot "object" name id) (X : K.In s.heap) (I : InstAt s.heap x ox C od) (hs : findIn K (.ref C) name = some (some (.builtin id)))
    (h : wpAny M A (call (.builtin id) (.ref x :: args)) (fun v => Q (some v)) E s) : wpAny M A (callSpecialIfBound? (.ref x) name args) Q E s := by
  simp only [callSpecialIfBound?, bindSpecialIfBound?]
  refine wpAny_holding (wpAny_bind (wpAny_bind (wpAny_bind (I.type.here ((looks_findIn X hs).here ?_)))))
  simp only [S.bind]
  refine wpAny_bind (wpAny_askSetting (wpAny_ite ?_))
  have fin : wpAny M A (call (.builtin id) ([.ref x] ++ args) >>= fun v => pure (some v)) Q E s := wpAny_bind (wpAny_mono h (fun v s' h' => wpAny_pure h') fun _ _ h' => h')
  split
  · exact wpAny_bind (wpAny_pure (wpAny_pure fin))
  · exact wpAny_tryCatch (wpAny_bind (wpAny_pure (wpAny_pure fin)))

theorem objNe_body {y : Addr} (hu : A.units < cLine) {Q : Fin → Shared → Prop} (X : K.In s.heap) (I : InstAt s.heap x ox C od) (hs : findIn K (.ref C) "__eq__" = some (some (.ref f))) (hf : isFn K (.ref f) = true)
    (hcall : wpAny (model prog w) A (call (.ref f) [.ref x, .ref y]) (fun v s' => ∃ b, v = .bool b ∧ Q (.done (.ret (.bool (!b)))) s') E s) :
    wpAny (model prog w) A (Builtin.«object.__ne__» ⟨[.ref x, .ref y], []⟩) Q E s := by
  obtain ⟨hp, g, d, tk, os⟩ := s
  unfold Builtin.«object.__ne__»
  repeat (first
    | with_reducible refine wpAny_cRoomFor hu ?_
    | (refine wpAny_bind (m := callSpecialIfBound? (.ref x) (Str.ofString "__eq__") [.ref y])
        (ifBound_K X I hs hf (wpAny_mono hcall (fun r s' hr => by
          obtain ⟨b, rfl, hq⟩ := hr
          repeat (first | exact hq | exact wpAny_pure hq | exact wpAny_truthy_bool hq | (refine wpAny_bind (m := truthy (.bool _)) (wpAny_truthy_bool ?_)) | wp_step)) fun _ _ e => e)))
    | wp_step)

theorem ne_K {y : Addr} {Q : Value → Shared → Prop} (hu : A.units + 1 < cLine) (X : K.In s.heap) (I : InstAt s.heap x ox C od) (hb : Looks (model prog w) s.heap (typeOf (.ref y)) (.ref C))
    (hn : findIn K (.ref C) "__ne__" = some (some (.builtin "object.__ne__"))) (hm : mroIn K C (.type "object") = some true) (hs : findIn K (.ref C) "__eq__" = some (some (.ref f))) (hf : isFn K (.ref f) = true)
    (hcall : wpAny (model prog w) A.in1 (call (.ref f) [.ref x, .ref y]) (fun v s' => ∃ b, v = .bool b ∧ Q (.bool (!b)) s') E s) :
    wpAny (model prog w) A (richCompare .NotEq (.ref x) (.ref y)) Q E s := by
  have sub : Looks (model prog w) s.heap (isInstance (.ref x) (.type "object")) true := I.type.andThen (looks_mroIn X hm)
  have one : wpAny (model prog w) A (tryCompare (.ref x) "__ne__" (.ref y)) (fun r s' => ∃ v, r = some v ∧ Q v s') E s := by
    unfold tryCompare
    refine wpAny_bind (ifBound_B F.cmp_object.ne X I hn (wpAny_call (codeAny_call_builtin F.cmp_object.ne.plain F.cmpEntry_ne
      (@W.check_slot (model prog w) _ _ s "object.__ne__" "object" "__ne__" (.ref x) [.ref y] [] _ F.cmpKind_ne F.cmpSplit_ne sub (F.cmpArgs_ne _ _)
        (objNe_body (A := A.in1) (Nat.lt_of_lt_of_le (by exact hu) (by exact Nat.le_refl _)) X I hs hf (wpAny_mono hcall (fun v s' hv => ?_) fun _ _ e => e))))))
    obtain ⟨b, rfl, hq⟩ := hv
    exact ⟨b, rfl, wpAny_pure ⟨_, rfl, hq⟩⟩
  unfold richCompare
  simp only [oneThing_ref]
  refine wpAny_holding (wpAny_bind (wpAny_cRoomFor (Nat.lt_of_succ_lt hu) ?_))
  rw [cmpInfo_NotEq]
  dsimp only
  refine wpAny_bind (I.type.here (wpAny_bind (hb.here ?_)))
  rw [show (Value.ref C != Value.ref C) = false from by simp]
  simp only [Bool.false_eq_true, if_false]
  refine wpAny_bind (wpAny_pure ?_)
  simp only [Bool.false_eq_true, if_false]
  refine wpAny_bind (wpAny_mono one (fun r s' z => ?_) fun _ _ e => e)
  obtain ⟨v, rfl, hq⟩ := z
  exact wpAny_pure hq
end
section
variable {X : Cx} {CX : CXT} {k : Nat} {f C : Addr} {sp : Sp}
/-- x != y by the own __eq__ -/
def rOwnNe (C : Addr) (sp : Sp) (E : XK) : R2 := fun x y H Q => ∃ a b dx dy fs gs, x = .ref a ∧ y = .ref b ∧ H a = some (.ins C dx fs) ∧ H b = some (.ins C dy gs) ∧ sp [.ref a, .ref b] H (fun v H' => ∃ c, v = .bl c ∧ Q (.bl (!c)) H') E
theorem op_neOwn {E : XK} (hn : PySem.W.findIn X.K (.ref C) "__ne__" = some (some (.builtin "object.__ne__"))) (hm : PySem.W.mroIn X.K C (.type "object") = some true) (o : OwnDef X.K C "__eq__" f)
    (F : FnR X.prog X.w X.K X.mg X.base CX k f sp) (hr : Room (k + 1) X.A) (hx : Passes CX X E) :
    OpR X (compareOp .NotEq) (rOwnNe C sp E) := by
  intro pins s σ H x y v u Q I rx ry h
  obtain ⟨a, b, dx, dy, fs, gs, rfl, rfl, ha, hb, q⟩ := h
  obtain rfl : v = Value.ref a := rx
  obtain rfl : u = Value.ref b := ry
  obtain ⟨ox, od, J⟩ := inst_at I ha
  obtain ⟨oy, oe, J'⟩ := inst_at I hb
  show wpAny _ _ (richCompare .NotEq _ _) _ _ _
  refine ne_K (hu_of hr) I.kIn J J'.type hn hm o.at_ o.fn ?_
  refine wpAny_call (codeAny_mono (F X.A.in1 X.stack s H [.ref a, .ref b] [.ref a, .ref b] _ E hr.in1 I.env0.in1 (.cons rfl (.cons rfl .nil)) q) fun r s' hq => ?_)
  cases r with
  | error e => exact hx pins σ H s e s' I hq
  | ok fl =>
    cases fl with
    | ret u =>
      obtain ⟨z, H', I', rz, c, rfl, q'⟩ := I.after hq
      obtain rfl : u = Value.bool c := rz
      exact ⟨c, rfl, ⟨.bl (!c), H', I', rfl, q'⟩⟩
    | next => exact False.elim hq
    | brk => exact False.elim hq
    | cont => exact False.elim hq
end
end Lb

namespace Lb
open PySem PySem.Spec PyProof.Rows L2
/-! ### readings, one step a lemma: the goal is the reading at the slots, the heap and what follows -/
section
variable {X : Cx} {σ : L2.St} {H : Hp} {Q : VK} {QB : Bool → Hp → Prop} {K : PySem.W.Frag} {ta tb tc : TE} {t u : TT} {i : Nat} {v x y : V} {r r' : R2}
/-! the rules for operators whatever the operands -/
def rAdd : R2 := rI0 fun i j => .int (i + j)
def rAddS : R2 := fun x y H Q => ∃ i j, x = .str i ∧ y = .str j ∧ i.length + j.length ≤ sizeLine ∧ Q (.str (i ++ j)) H
def rAddA (K : PySem.W.Frag) : R2 := fun x y H Q => rAdd x y H Q ∨ rAddS x y H Q ∨ rCat x y H Q ∨ rCatT K x y H Q
theorem op_addA : OpR X (binaryOp .Add) (rAddA X.K) := op_add.or (op_add_str.or (op_cat.or op_catT))
def rSub : R2 := rI0 fun i j => .int (i - j)
theorem op_subI : OpR X (binaryOp .Sub) rSub := op_sub
def rMul : R2 := rI CMulW fun i j => .int (i * j)
def rMulA : R2 := fun x y H Q => rMul x y H Q ∨ rRep x y H Q
theorem op_mulA : OpR X (binaryOp .Mult) rMulA := op_mulW.or op_rep
def rDiv : R2 := rI CDivW fun i j => .int (i / j)
theorem op_div : OpR X (binaryOp .FloorDiv) rDiv := op_fdivW
def rMod : R2 := rI (fun _ j => 0 < j) fun i j => .int (i % j)
theorem op_modI : OpR X (binaryOp .Mod) rMod := op_mod
def rPow : R2 := rI CPow fun i j => .int (i ^ j.toNat)
theorem op_powI : OpR X (binaryOp .Pow) rPow := op_pow
def rEqA (K : PySem.W.Frag) : R2 := fun x y H Q => rEq x y H Q ∨ rEqD K x y H Q
theorem op_eqA (hu : X.A.units + 64 < cLine) : OpR X (compareOp .Eq) (rEqA X.K) := op_eq.or (op_eqD hu)
def rNeA (K : PySem.W.Frag) : R2 := fun x y H Q => rNe x y H Q ∨ rNeD K x y H Q
theorem op_neA (hu : X.A.units + 64 < cLine) : OpR X (compareOp .NotEq) (rNeA X.K) := op_ne.or (op_neD hu)
def rLt : R2 := rI0 fun i j => .bl (decide (i < j))
def rLe : R2 := rI0 fun i j => .bl (decide (i ≤ j))
def rGt : R2 := rI0 fun i j => .bl (decide (j < i))
def rGe : R2 := rI0 fun i j => .bl (decide (j ≤ i))
theorem op_ltI : OpR X (compareOp .Lt) rLt := op_lt
theorem op_leI : OpR X (compareOp .LtE) rLe := op_le
theorem op_gtI : OpR X (compareOp .Gt) rGt := op_gt
theorem op_geI : OpR X (compareOp .GtE) rGe := op_ge
def rIs0 : R2 := fun x y H Q => y = .non ∧ Q (.bl (decide (x = .non))) H
def rIsnt0 : R2 := fun x y H Q => y = .non ∧ Q (.bl (!decide (x = .non))) H
theorem op_is0 : OpR X (compareOp .Is) rIs0 := op_isN
theorem op_isnt0 : OpR X (compareOp .IsNot) rIsnt0 := op_notN
def uNeg : V → Hp → VK → Prop := rU fun i => .int (-i)
theorem un_negI : UnR X (unaryOp .USub) uNeg := un_neg
/-! built-in calls -/
def kLen (K : PySem.W.Frag) : List V → Hp → VK → Prop := fun xs H Q => ∃ x n, xs = [x] ∧ LenV K x H n ∧ Q (.int n) H
theorem call_lenA : CallR X (.builtin "len") (kLen X.K) := call_len
def kInt : List V → Hp → VK → Prop := fun xs H Q => (∃ i, xs = [.int i] ∧ Q (.int i) H) ∨ ∃ k, xs = [.bl k] ∧ Q (.int (if k then 1 else 0)) H
theorem call_intA : CallR X (.type "int") kInt := call_int1
def kBool : List V → Hp → VK → Prop := fun xs H Q => (∃ i, xs = [.int i] ∧ Q (.bl (i != 0)) H) ∨ ∃ k, xs = [.bl k] ∧ Q (.bl k) H
theorem call_boolA : CallR X (.type "bool") kBool := call_bool1
def kAbs : List V → Hp → VK → Prop := fun xs H Q => ∃ i, xs = [.int i] ∧ Q (.int (if i < 0 then -i else i)) H
theorem call_absA : CallR X (.builtin "abs") kAbs := call_abs

/-! ### the steps -/
theorem c_var (h : σ[i]? = some (some v)) (q : Q v H) : tVar i σ H Q := ⟨v, h, q⟩
theorem c_c (q : Q v H) : tC v σ H Q := q
theorem c_op (q : ta σ H fun x H1 => tb σ H1 fun y H2 => r x y H2 Q) : tOp r ta tb σ H Q := q
theorem c_un {r : V → Hp → VK → Prop} (q : ta σ H fun x H1 => r x H1 Q) : tUn r ta σ H Q := q
theorem c_test {te : TE} (q : te σ H fun x H' => ∃ k, x = .bl k ∧ QB k H') : tTest te σ H QB := q
theorem c_B {te : TE} (q : te σ H fun x H' => ∃ k, x = .bl k ∧ QB k H') : tB te σ H QB := q
theorem c_bl {b : Bool} {R : Bool → Prop} (q : R b) : ∃ k, V.bl b = .bl k ∧ R k := ⟨b, rfl, q⟩
theorem c_chain (q : ta σ H fun x H1 => tb σ H1 fun y H2 => r x y H2 fun z H3 => ∃ k, z = .bl k ∧ (if k = true then tc σ H3 fun w' H4 => r' y w' H4 Q else Q (.bl false) H3)) : tChain r r' ta tb tc σ H Q := q
theorem c_not (q : t σ H fun c H1 => QB (!c) H1) : tNot t σ H QB := q
theorem c_and (q : t σ H fun c H1 => if c = true then u σ H1 QB else QB false H1) : tAnd t u σ H QB := q
theorem c_or (q : t σ H fun c H1 => if c = true then QB true H1 else u σ H1 QB) : tOr t u σ H QB := q
theorem c_andV (q : ta σ H fun x H1 => ∃ c, x = .bl c ∧ if c = true then tb σ H1 Q else Q (.bl false) H1) : tAndV ta tb σ H Q := q
theorem c_orV (q : ta σ H fun x H1 => ∃ c, x = .bl c ∧ if c = true then Q (.bl true) H1 else tb σ H1 Q) : tOrV ta tb σ H Q := q
theorem c_notV (q : ta σ H fun x H1 => ∃ c, x = .bl c ∧ Q (.bl (!c)) H1) : tNotV ta σ H Q := q
theorem c_ifE (q : t σ H fun c H1 => if c = true then ta σ H1 Q else tb σ H1 Q) : tIf t ta tb σ H Q := q
theorem c_ifD {p : Prop} [Decidable p] {A B : Prop} (h1 : p → A) (h2 : ¬ p → B) : if decide p = true then A else B := by
  by_cases h : p
  · rw [if_pos (decide_eq_true h)]; exact h1 h
  · rw [if_neg (by simpa using h)]; exact h2 h
theorem c_ifT {p : Prop} [Decidable p] {A B : Prop} (h : p) (h1 : A) : if decide p = true then A else B := c_ifD (fun _ => h1) fun z => absurd h z
theorem c_ifF {p : Prop} [Decidable p] {A B : Prop} (h : ¬ p) (h1 : B) : if decide p = true then A else B := c_ifD (fun z => absurd z h) fun _ => h1
theorem c_ifDN {p : Prop} [Decidable p] {A B : Prop} (h1 : ¬ p → A) (h2 : p → B) : if (!decide p) = true then A else B := by
  by_cases h : p
  · rw [if_neg (by simp [h])]; exact h2 h
  · rw [if_pos (by simp [h])]; exact h1 h
theorem c_ifTN {p : Prop} [Decidable p] {A B : Prop} (h : ¬ p) (h1 : A) : if (!decide p) = true then A else B := c_ifDN (fun _ => h1) fun z => absurd z h
theorem c_ifFN {p : Prop} [Decidable p] {A B : Prop} (h : p) (h1 : B) : if (!decide p) = true then A else B := c_ifDN (fun z => absurd h z) fun _ => h1
theorem c_ifB {b : Bool} {A B : Prop} (h1 : b = true → A) (h2 : b = false → B) : if b = true then A else B := by
  cases b with
  | true => rw [if_pos rfl]; exact h1 rfl
  | false => rw [if_neg (by simp)]; exact h2 rfl
theorem c_ifNT {A B : Prop} (h : B) : if (!true) = true then A else B := by rw [if_neg (by simp)]; exact h
theorem c_ifNF {A B : Prop} (h : A) : if (!false) = true then A else B := by rw [if_pos (by simp)]; exact h
theorem c_nn {b : Bool} (q : QB b H) : QB (!!b) H := by rw [Bool.not_not]; exact q
/-! arguments -/
variable {QA : List V → Hp → Prop} {tr : TA}
theorem c_nil (q : QA [] H) : tNil σ H QA := q
theorem c_cons (q : ta σ H fun x H1 => tr σ H1 fun xs H2 => QA (x :: xs) H2) : tCons ta tr σ H QA := q
theorem c_CB {rr : List V → Hp → VK → Prop} (q : tr σ H fun vs H1 => rr vs H1 Q) : tCB rr tr σ H Q := q
theorem c_callX {sp : Sp} {E : L2.St → XK} (q : tr σ H fun vs H1 => sp vs H1 Q (E σ)) : tCallX sp E tr σ H Q := q
theorem c_methX {C : Addr} {m : Str} {sp : Sp} {E : L2.St → XK} (q : ta σ H fun x H1 => ∃ a dx fs, x = .ref a ∧ H1 a = some (.ins C dx fs) ∧ fs.lookup m = none ∧ tr σ H1 fun vs H2 => sp (x :: vs) H2 Q (E σ)) : tMethX C m sp E ta tr σ H Q := q
theorem c_meth1 {C a dx : Addr} {fs : List (Str × V)} {m : Str} {R : V → Prop} (ha : H a = some (.ins C dx fs)) (hm : fs.lookup m = none) (q : R (.ref a)) : ∃ a' dx fs, V.ref a = .ref a' ∧ H a' = some (.ins C dx fs) ∧ fs.lookup m = none ∧ R (.ref a) := ⟨a, dx, fs, rfl, ha, hm, q⟩
theorem c_makeX {C : Addr} {sp : Sp} {E : L2.St → XK} (q : tr σ H fun vs H1 => ∀ x dx, H1 x = none → H1 dx = none → dx ≠ x → sp (.ref x :: vs) (upd (upd H1 dx (.own x)) x (.ins C dx [])) (fun v H2 => v = .non ∧ Q (.ref x) H2) (E σ)) : tMakeX C sp E tr σ H Q := q
theorem c_tup (q : tr σ H fun xs H1 => xs.length ≤ sizeLine ∧ ∀ p, H1 p = none → Q (.ref p) (upd H1 p (.tup xs))) : tTup tr σ H Q := q
theorem c_lst (q : tr σ H fun xs H1 => xs.length ≤ sizeLine ∧ ∀ p, H1 p = none → Q (.ref p) (upd H1 p (.lst xs))) : tLst tr σ H Q := q
theorem c_fld {f : Str} (q : ta σ H fun x H1 => ∃ a C dx fs v, x = .ref a ∧ H1 a = some (.ins C dx fs) ∧ Cls K C ∧ NoAttr K C f ∧ fs.lookup f = some v ∧ Q v H1) : tFld K ta f σ H Q := q
theorem c_fld1 {C dx a : Addr} {fs : List (Str × V)} {f : Str} (ha : H a = some (.ins C dx fs)) (hc : Cls K C) (hn : NoAttr K C f) {R : V → Prop} (hl : fs.lookup f = some v) (q : R v) :
    ∃ a' C dx fs v, V.ref a = .ref a' ∧ H a' = some (.ins C dx fs) ∧ Cls K C ∧ NoAttr K C f ∧ fs.lookup f = some v ∧ R v := ⟨a, C, dx, fs, v, rfl, ha, hc, hn, hl, q⟩
/-! values -/
variable {n m : Int} {b : Bool} {s z : Str}
theorem c_addI (q : Q (.int (n + m)) H) : rAddA K (.int n) (.int m) H Q := .inl ⟨n, m, rfl, rfl, q⟩
theorem c_addS (hl : s.length + z.length ≤ sizeLine) (q : Q (.str (s ++ z)) H) : rAddA K (.str s) (.str z) H Q := .inr (.inl ⟨s, z, rfl, rfl, hl, q⟩)
theorem c_subI (q : Q (.int (n - m)) H) : rSub (.int n) (.int m) H Q := ⟨n, m, rfl, rfl, q⟩
theorem c_mulI (h : CMulW n m) (q : Q (.int (n * m)) H) : rMulA (.int n) (.int m) H Q := .inl ⟨n, m, rfl, rfl, h, q⟩
theorem c_divI (h : CDivW n m) (q : Q (.int (n / m)) H) : rDiv (.int n) (.int m) H Q := ⟨n, m, rfl, rfl, h, q⟩
theorem c_modI (h : 0 < m) (q : Q (.int (n % m)) H) : rMod (.int n) (.int m) H Q := ⟨n, m, rfl, rfl, h, q⟩
theorem c_powI (h : CPow n m) (q : Q (.int (n ^ m.toNat)) H) : rPow (.int n) (.int m) H Q := ⟨n, m, rfl, rfl, h, q⟩
theorem c_negI (q : Q (.int (-n)) H) : uNeg (.int n) H Q := ⟨n, rfl, q⟩
theorem c_lt (q : Q (.bl (decide (n < m))) H) : rLt (.int n) (.int m) H Q := ⟨n, m, rfl, rfl, q⟩
theorem c_le (q : Q (.bl (decide (n ≤ m))) H) : rLe (.int n) (.int m) H Q := ⟨n, m, rfl, rfl, q⟩
theorem c_gt (q : Q (.bl (decide (m < n))) H) : rGt (.int n) (.int m) H Q := ⟨n, m, rfl, rfl, q⟩
theorem c_ge (q : Q (.bl (decide (m ≤ n))) H) : rGe (.int n) (.int m) H Q := ⟨n, m, rfl, rfl, q⟩
theorem c_eqI (q : Q (.bl (decide (n = m))) H) : rEqA K (.int n) (.int m) H Q := .inl ⟨rfl, by rw [show decide (V.int n = V.int m) = decide (n = m) by simp]; exact q⟩
theorem c_neI (q : Q (.bl (!decide (n = m))) H) : rNeA K (.int n) (.int m) H Q := .inl ⟨rfl, by rw [show decide (V.int n = V.int m) = decide (n = m) by simp]; exact q⟩
theorem c_eqB {b c : Bool} (q : Q (.bl (decide (b = c))) H) : rEqA K (.bl b) (.bl c) H Q := .inl ⟨rfl, by rw [show decide (V.bl b = V.bl c) = decide (b = c) by simp]; exact q⟩
theorem c_neB {b c : Bool} (q : Q (.bl (!decide (b = c))) H) : rNeA K (.bl b) (.bl c) H Q := .inl ⟨rfl, by rw [show decide (V.bl b = V.bl c) = decide (b = c) by simp]; exact q⟩
theorem c_eqS (q : Q (.bl (decide (s = z))) H) : rEqA K (.str s) (.str z) H Q := .inl ⟨rfl, by rw [show decide (V.str s = V.str z) = decide (s = z) by simp]; exact q⟩
theorem c_neS (q : Q (.bl (!decide (s = z))) H) : rNeA K (.str s) (.str z) H Q := .inl ⟨rfl, by rw [show decide (V.str s = V.str z) = decide (s = z) by simp]; exact q⟩
theorem c_is0 (q : Q (.bl (decide (x = .non))) H) : rIs0 x .non H Q := ⟨rfl, q⟩
theorem c_isnt0 (q : Q (.bl (!decide (x = .non))) H) : rIsnt0 x .non H Q := ⟨rfl, q⟩
theorem c_intI (q : Q (.int n) H) : kInt [.int n] H Q := .inl ⟨n, rfl, q⟩
theorem c_intB (q : Q (.int (if b then 1 else 0)) H) : kInt [.bl b] H Q := .inr ⟨b, rfl, q⟩
theorem c_boolB (q : Q (.bl b) H) : kBool [.bl b] H Q := .inr ⟨b, rfl, q⟩
theorem c_abs (q : Q (.int (if n < 0 then -n else n)) H) : kAbs [.int n] H Q := ⟨n, rfl, q⟩
theorem c_lenL {a : Addr} {xs : List V} (h : SqL K H a xs) (q : Q (.int xs.length) H) : kLen K [.ref a] H Q := ⟨_, _, rfl, .inl ⟨_, h, rfl⟩, q⟩
theorem c_ixL {a : Addr} {xs : List V} (h : SqL K H a xs) (ha : atI xs n = some v) (q : Q v H) : rIx K (.ref a) (.int n) H Q := .inl ⟨_, _, _, _, rfl, rfl, h, ha, q⟩
theorem c_ixT {a : Addr} {xs : List V} (h : SqT K H a xs) (ha : atI xs n = some v) (q : Q v H) : rIx K (.ref a) (.int n) H Q := .inr (.inl ⟨_, _, _, _, rfl, rfl, h, ha, q⟩)
/-! statements -/
variable {D : Ends} {t1 t2 : TS}
theorem c_seq (h : t1 { D with nx := t2 D } σ H) : tSeq t1 t2 D σ H := h
/-- what follows behind t1 by what is true there -/
theorem c_cut (P : L2.St → Hp → Prop) (h2 : ∀ σ H, P σ H → t2 D σ H) (h1 : ∀ N : L2.St → Hp → Prop, (∀ σ H, P σ H → N σ H) → t1 { D with nx := N } σ H) : tSeq t1 t2 D σ H := h1 (t2 D) h2
theorem c_next (q : D.nx σ H) : tNext D σ H := q
theorem c_asg (q : ta σ H fun x H1 => D.nx (σ.set i (some x)) H1) : tAsg ta (gName i) D σ H := q
theorem c_drop (q : ta σ H fun _ H1 => D.nx σ H1) : tDrop ta D σ H := q
theorem c_ret (q : ta σ H D.rt) : tRet ta D σ H := q
theorem c_retN (q : D.rt .non H) : tRetN D σ H := q
theorem c_ifS (q : t σ H fun b H1 => if b = true then t1 D σ H1 else t2 D σ H1) : tIfS t t1 t2 D σ H := q
theorem c_sfld {f : Str} {tv : TE} (q : tv σ H fun y H1 => ta σ H1 fun x H2 => ∃ a C dx fs, x = .ref a ∧ H2 a = some (.ins C dx fs) ∧ Cls K C ∧ NoAttr K C f ∧ fs.length < 1000 ∧ D.nx σ (upd H2 a (.ins C dx (putF f y fs)))) : sFld K ta tv f D σ H := q
theorem c_sfld1 {f : Str} {C dx a : Addr} {fs : List (Str × V)} {R : Hp → Prop} (ha : H a = some (.ins C dx fs)) (hc : Cls K C) (hn : NoAttr K C f) (hl : fs.length < 1000) (q : R (upd H a (.ins C dx (putF f y fs)))) :
    ∃ a' C dx fs, V.ref a = .ref a' ∧ H a' = some (.ins C dx fs) ∧ Cls K C ∧ NoAttr K C f ∧ fs.length < 1000 ∧ R (upd H a' (.ins C dx (putF f y fs))) := ⟨a, C, dx, fs, rfl, ha, hc, hn, hl, q⟩
end

/-- what isinstance asks of a class of the text's own -/
structure IsiC (K : PySem.W.Frag) (C : Addr) : Prop where
  cl : Cls K C
  ha : PySem.W.findIn K (.ref C) "__class__" = some (some (.builtin "object.__class__"))
  hn : PySem.W.specialIn K (.builtin "object.__class__") "__get__" = some (some (.builtin "getset_descriptor.__get__"))
  htk : PySem.W.takesIn K (.builtin "object.__class__") = some true
  hm : PySem.W.mroIn K C (.type "object") = some true
  kit : PySem.W.kitOne K (.ref C) (.ref C) = some true
section
variable {H : Hp} {Q : VK} {K : PySem.W.Frag}
theorem c_isiOwn {C a dx : Addr} {fs : List (Str × V)} (T : IsiC K C) (h : H a = some (.ins C dx fs)) (q : Q (.bl true) H) : rIsi K [.ref a, .ref C] H Q :=
  ⟨_, _, _, _, true, rfl, .own C, .base (.ins h T.cl T.ha T.hn T.htk T.hm), T.kit, q⟩
theorem c_isi {x : V} {a b : String} {r : Bool} (ht : TyX K H x (.type a)) (hk : kitB a b = some r) (q : Q (.bl r) H) : rIsi K [x, .ty b] H Q :=
  ⟨_, _, _, _, r, rfl, .ty b, ht, kit_ty hk, q⟩
theorem c_isi_non_int  (q : Q (.bl false) H) : rIsi K [.non, .ty "int"] H Q := c_isi (.base (.non)) (by decide +kernel) q
theorem c_isi_non_bool  (q : Q (.bl false) H) : rIsi K [.non, .ty "bool"] H Q := c_isi (.base (.non)) (by decide +kernel) q
theorem c_isi_non_str  (q : Q (.bl false) H) : rIsi K [.non, .ty "str"] H Q := c_isi (.base (.non)) (by decide +kernel) q
theorem c_isi_non_tuple  (q : Q (.bl false) H) : rIsi K [.non, .ty "tuple"] H Q := c_isi (.base (.non)) (by decide +kernel) q
theorem c_isi_non_list  (q : Q (.bl false) H) : rIsi K [.non, .ty "list"] H Q := c_isi (.base (.non)) (by decide +kernel) q
theorem c_isi_non_dict  (q : Q (.bl false) H) : rIsi K [.non, .ty "dict"] H Q := c_isi (.base (.non)) (by decide +kernel) q
theorem c_isi_bl_int {b : Bool} (q : Q (.bl true) H) : rIsi K [(.bl b), .ty "int"] H Q := c_isi (.base (.bl _)) (by decide +kernel) q
theorem c_isi_bl_bool {b : Bool} (q : Q (.bl true) H) : rIsi K [(.bl b), .ty "bool"] H Q := c_isi (.base (.bl _)) (by decide +kernel) q
theorem c_isi_bl_str {b : Bool} (q : Q (.bl false) H) : rIsi K [(.bl b), .ty "str"] H Q := c_isi (.base (.bl _)) (by decide +kernel) q
theorem c_isi_bl_tuple {b : Bool} (q : Q (.bl false) H) : rIsi K [(.bl b), .ty "tuple"] H Q := c_isi (.base (.bl _)) (by decide +kernel) q
theorem c_isi_bl_list {b : Bool} (q : Q (.bl false) H) : rIsi K [(.bl b), .ty "list"] H Q := c_isi (.base (.bl _)) (by decide +kernel) q
theorem c_isi_bl_dict {b : Bool} (q : Q (.bl false) H) : rIsi K [(.bl b), .ty "dict"] H Q := c_isi (.base (.bl _)) (by decide +kernel) q
theorem c_isi_int_int {n : Int} (q : Q (.bl true) H) : rIsi K [(.int n), .ty "int"] H Q := c_isi (.base (.int _)) (by decide +kernel) q
theorem c_isi_int_bool {n : Int} (q : Q (.bl false) H) : rIsi K [(.int n), .ty "bool"] H Q := c_isi (.base (.int _)) (by decide +kernel) q
theorem c_isi_int_str {n : Int} (q : Q (.bl false) H) : rIsi K [(.int n), .ty "str"] H Q := c_isi (.base (.int _)) (by decide +kernel) q
theorem c_isi_int_tuple {n : Int} (q : Q (.bl false) H) : rIsi K [(.int n), .ty "tuple"] H Q := c_isi (.base (.int _)) (by decide +kernel) q
theorem c_isi_int_list {n : Int} (q : Q (.bl false) H) : rIsi K [(.int n), .ty "list"] H Q := c_isi (.base (.int _)) (by decide +kernel) q
theorem c_isi_int_dict {n : Int} (q : Q (.bl false) H) : rIsi K [(.int n), .ty "dict"] H Q := c_isi (.base (.int _)) (by decide +kernel) q
theorem c_isi_str_int {s : Str} (q : Q (.bl false) H) : rIsi K [(.str s), .ty "int"] H Q := c_isi (.base (.str _)) (by decide +kernel) q
theorem c_isi_str_bool {s : Str} (q : Q (.bl false) H) : rIsi K [(.str s), .ty "bool"] H Q := c_isi (.base (.str _)) (by decide +kernel) q
theorem c_isi_str_str {s : Str} (q : Q (.bl true) H) : rIsi K [(.str s), .ty "str"] H Q := c_isi (.base (.str _)) (by decide +kernel) q
theorem c_isi_str_tuple {s : Str} (q : Q (.bl false) H) : rIsi K [(.str s), .ty "tuple"] H Q := c_isi (.base (.str _)) (by decide +kernel) q
theorem c_isi_str_list {s : Str} (q : Q (.bl false) H) : rIsi K [(.str s), .ty "list"] H Q := c_isi (.base (.str _)) (by decide +kernel) q
theorem c_isi_str_dict {s : Str} (q : Q (.bl false) H) : rIsi K [(.str s), .ty "dict"] H Q := c_isi (.base (.str _)) (by decide +kernel) q
theorem c_isi_list_int {a : Addr} {xs : List V} (h : H a = some (.lst xs)) (q : Q (.bl false) H) : rIsi K [.ref a, .ty "int"] H Q := c_isi (.base (.lst h)) (by decide +kernel) q
theorem c_isi_list_bool {a : Addr} {xs : List V} (h : H a = some (.lst xs)) (q : Q (.bl false) H) : rIsi K [.ref a, .ty "bool"] H Q := c_isi (.base (.lst h)) (by decide +kernel) q
theorem c_isi_list_str {a : Addr} {xs : List V} (h : H a = some (.lst xs)) (q : Q (.bl false) H) : rIsi K [.ref a, .ty "str"] H Q := c_isi (.base (.lst h)) (by decide +kernel) q
theorem c_isi_list_tuple {a : Addr} {xs : List V} (h : H a = some (.lst xs)) (q : Q (.bl false) H) : rIsi K [.ref a, .ty "tuple"] H Q := c_isi (.base (.lst h)) (by decide +kernel) q
theorem c_isi_list_list {a : Addr} {xs : List V} (h : H a = some (.lst xs)) (q : Q (.bl true) H) : rIsi K [.ref a, .ty "list"] H Q := c_isi (.base (.lst h)) (by decide +kernel) q
theorem c_isi_list_dict {a : Addr} {xs : List V} (h : H a = some (.lst xs)) (q : Q (.bl false) H) : rIsi K [.ref a, .ty "dict"] H Q := c_isi (.base (.lst h)) (by decide +kernel) q
theorem c_isi_tuple_int {a : Addr} {xs : List V} (h : H a = some (.tup xs)) (q : Q (.bl false) H) : rIsi K [.ref a, .ty "int"] H Q := c_isi (.base (.tup h)) (by decide +kernel) q
theorem c_isi_tuple_bool {a : Addr} {xs : List V} (h : H a = some (.tup xs)) (q : Q (.bl false) H) : rIsi K [.ref a, .ty "bool"] H Q := c_isi (.base (.tup h)) (by decide +kernel) q
theorem c_isi_tuple_str {a : Addr} {xs : List V} (h : H a = some (.tup xs)) (q : Q (.bl false) H) : rIsi K [.ref a, .ty "str"] H Q := c_isi (.base (.tup h)) (by decide +kernel) q
theorem c_isi_tuple_tuple {a : Addr} {xs : List V} (h : H a = some (.tup xs)) (q : Q (.bl true) H) : rIsi K [.ref a, .ty "tuple"] H Q := c_isi (.base (.tup h)) (by decide +kernel) q
theorem c_isi_tuple_list {a : Addr} {xs : List V} (h : H a = some (.tup xs)) (q : Q (.bl false) H) : rIsi K [.ref a, .ty "list"] H Q := c_isi (.base (.tup h)) (by decide +kernel) q
theorem c_isi_tuple_dict {a : Addr} {xs : List V} (h : H a = some (.tup xs)) (q : Q (.bl false) H) : rIsi K [.ref a, .ty "dict"] H Q := c_isi (.base (.tup h)) (by decide +kernel) q
end
section
variable {X : Cx} {CX : CXT} {k : Nat} {g C : Addr} {sp : Sp} {E : L2.St → XK} {fe e : Expr} {es : List Expr} {tf : TE} {t : TA} {pos : Pos}
/-- f(e, ..), f an expression that gives an instance of C -/
def tCallI (C : Addr) (sp : Sp) (E : L2.St → XK) (tf : TE) (t : TA) : TE := fun σ H Q => tf σ H fun y H1 => ∃ a, y = V.ref a ∧ t σ H1 fun vs H2 => (∃ dx fs, H2 a = some (.ins C dx fs)) ∧ sp (V.ref a :: vs) H2 Q (E σ)
theorem pe_callI (hf : PE X fe tf) (c : StX.CallO X.K C g) (F : FnR X.prog X.w X.K X.mg X.base CX k g sp) (hr : Room k X.A) (hx : ∀ σ, PassesAt CX X σ (E σ)) (ha : PA X (e :: es) t)
    (ht : eval (.Call fe (e :: es) [] pos) X.env = (do callWith pos (← eval fe X.env) [] (backTo pos (starEach (e :: es) X.env)) (backToKw pos (keywordEach [] X.env))) := by rfl)
    (he : starEach (e :: es) X.env = (false, eval e X.env) :: starEach es X.env := by rfl) (hpl : (backTo pos (starEach es X.env)).any (·.1) = false := by rfl) : PE X (.Call fe (e :: es) [] pos) (tCallI C sp E tf t) := by
  refine ⟨fun pins s σ H Q I h => ?_⟩
  refine Call_ (thn (hf.run pins s σ H _ I h) fun u s1 ⟨y, H1, I1, ry, a, ey, q⟩ => ?_) ht
  subst ey
  obtain rfl : u = Value.ref a := ry
  refine StX.callO_with (thn (ha.run pos pins s1 σ H1 _ I1 q) fun us s2 ⟨vs, H2, I2, r, ⟨dx, fs, hi⟩, q2⟩ => ?_) he hpl
  obtain ⟨ox, od, J, hd⟩ := StX.insC_at I2 (.inr ⟨dx, fs, hi⟩)
  refine ⟨⟨C, ox, od, J, hd⟩, wpAny_call (PySem.W.kco_code I2.kIn J hd c.at_ c.fn c.fi ?_)⟩
  refine codeAny_mono (F X.A X.stack s2 H2 (.ref a :: us) (.ref a :: vs) Q (E σ) hr I2.env0 (.cons rfl r) q2) fun r s' hq => ?_
  cases r with
  | error e => exact hx σ pins H2 s2 e s' I2 hq
  | ok fl =>
    cases fl with
    | ret u => exact I2.after hq
    | next => exact False.elim hq
    | brk => exact False.elim hq
    | cont => exact False.elim hq
end
theorem c_callI {C : Addr} {sp : Sp} {E : L2.St → XK} {tf : TE} {tr : TA} {σ : L2.St} {H : Hp} {Q : VK} (q : tf σ H fun y H1 => ∃ a, y = V.ref a ∧ tr σ H1 fun vs H2 => (∃ dx fs, H2 a = some (.ins C dx fs)) ∧ sp (V.ref a :: vs) H2 Q (E σ)) : tCallI C sp E tf tr σ H Q := q
theorem c_insI {H : Hp} {a C dx : Addr} {fs : List (Str × V)} {R : Prop} (h : H a = some (.ins C dx fs)) (q : R) : (∃ dx fs, H a = some (.ins C dx fs)) ∧ R := ⟨⟨dx, fs, h⟩, q⟩
/-- StX.pe_callO's reading -/
theorem c_callO {X : Cx} {C : Addr} {sp : Sp} {E : XK} {tf : TE} {tr : TA} {σ : L2.St} {H : Hp} {Q : VK} (q : tf σ H fun y H1 => ∃ a, y = V.ref a ∧ tr σ H1 fun vs H2 => StX.InsC X H2 a C ∧ sp (V.ref a :: vs) H2 Q E) : StX.tCallO X C sp E tf tr σ H Q := q
theorem c_ref {a : Addr} {R : Addr → Prop} (q : R a) : ∃ b, V.ref a = V.ref b ∧ R b := ⟨a, rfl, q⟩
theorem c_insC {X : Cx} {H : Hp} {a C dx : Addr} {fs : List (Str × V)} {R : Prop} (h : H a = some (.ins C dx fs)) (q : R) : StX.InsC X H a C ∧ R := ⟨.inr ⟨dx, fs, h⟩, q⟩
theorem c_own2 {C a b dx dy : Addr} {fs gs : List (Str × V)} {sp : Sp} {E : XK} {H : Hp} {Q : VK} (h1 : H a = some (.ins C dx fs)) (h2 : H b = some (.ins C dy gs)) (q : sp [.ref a, .ref b] H Q E) : rOwn2 C sp E (.ref a) (.ref b) H Q := ⟨a, b, dx, dy, fs, gs, rfl, rfl, h1, h2, q⟩
theorem c_ownNe {C a b dx dy : Addr} {fs gs : List (Str × V)} {sp : Sp} {E : XK} {H : Hp} {Q : VK} (h1 : H a = some (.ins C dx fs)) (h2 : H b = some (.ins C dy gs)) (q : sp [.ref a, .ref b] H (fun v H' => ∃ c, v = .bl c ∧ Q (.bl (!c)) H') E) : rOwnNe C sp E (.ref a) (.ref b) H Q := ⟨a, b, dx, dy, fs, gs, rfl, rfl, h1, h2, q⟩
theorem c_ownI {C a dx : Addr} {fs : List (Str × V)} {i : Int} {sp : Sp} {E : XK} {H : Hp} {Q : VK} (h1 : H a = some (.ins C dx fs)) (q : sp [.ref a, .int i] H Q E) : rOwnI C sp E (.ref a) (.int i) H Q := ⟨a, dx, fs, i, rfl, rfl, h1, q⟩
theorem c_ownU {C a dx : Addr} {fs : List (Str × V)} {sp : Sp} {E : XK} {H : Hp} {Q : VK} (h1 : H a = some (.ins C dx fs)) (q : sp [.ref a] H Q E) : rOwnU C sp E (.ref a) H Q := ⟨a, dx, fs, rfl, h1, q⟩
theorem Same.mk {H : Hp} {x dx C : Addr} {o : HO} (n1 : H x = none) (n2 : H dx = none) : Same H (upd (upd H dx o) x (.ins C dx [])) := fun b u e => by
  rw [upd_ne (ne_of_none e n1), upd_ne (ne_of_none e n2)]; exact e
theorem Same.upd {H H1 : Hp} {x : Addr} {o : HO} (s : Same H H1) (n : H x = none) : Same H (L2.upd H1 x o) := fun b u e => by
  rw [upd_ne (ne_of_none e n)]; exact s b u e
theorem Same.new {H : Hp} {x : Addr} {o : HO} (n : H x = none) : Same H (L2.upd H x o) := Same.upd (Same.refl H) n
theorem c_start {t : TS} {D : Ends} {σ σ' : L2.St} {H : Hp} (e : σ' = σ) (h : t D σ' H) : t D σ H := e ▸ h
end Lb

/-! Lb3: an own exception whose __init__ says super().__init__('..') and keeps one field. -/
namespace Lb
open PySem PySem.Spec PyProof.Rows L2
def xArgs (p1 p2 : Pos) (nm : Str) : Arguments := { posonlyargs := [], args := [{ arg := "self", annotation := none, pos := p1 }, { arg := nm, annotation := none, pos := p2 }], vararg := none, kwonlyargs := [], kw_defaults := [], kwarg := none, defaults := [] }
def xBody (msg fld nm : Str) (j : Nat) (a0 a1 a2 a3 a4 a5 b1 b2 b3 b4 : Pos) : List Stmt :=
  [.Expr (.Call (.Attribute (.Call (.Name "super" a0) [] [] a1) "__init__" a2) [.Constant (.str msg) j a3] [] a4) a5, .Assign [.Attribute (.Name "self" b1) fld b2] (.Name nm b3) b4]
/-- a fresh error at a is filled: its dict holds the field alone -/
def spX (C : Addr) (fld : Str) : Sp := fun vs H Q _ => ∃ (a : Addr) (v : V), vs = [.ref a, v] ∧ H a = some (exo a C none) ∧ ∀ dx, H dx = none → dx ≠ a → Q .non (upd (upd H dx (exd dx [(fld, v)])) a (exo a C (some dx)))
theorem super_call_eq {env : Env} {a0 a1 a2 a3 a4 : Pos} {msg : Str} {j : Nat} (hpos : (a2.endLine == a4.line) = true) :
    eval (.Call (.Attribute (.Call (.Name "super" a0) [] [] a1) "__init__" a2) [.Constant (.str msg) j a3] [] a4) env = (do
      let ov ← attributeBase (.Call (.Name "super" a0) [] [] a1) "__init__" env (eval (.Call (.Name "super" a0) [] [] a1) env)
      standAt a2.atName
      let (f, first) ← holding [ov] (getMethod ov "__init__" (pure false))
      callWith a4 f first (backTo a4 (starEach [.Constant (.str msg) j a3] env)) []) := by
  have e : methodCallPos true (.Call (.Name "super" a0) [] [] a1) env a2 a4 = pure a4 := by
    unfold methodCallPos
    rw [if_pos (by simp [hpos])]
  have f1 : ∀ n : Sem Value, methodCallForm ([Expr.Constant (.str msg) j a3].length + ([] : List Keyword).length) (backTo a4 (starEach [.Constant (.str msg) j a3] env)) (backToKw a4 (keywordEach [] env)) = true := fun _ => rfl
  have q : eval (.Call (.Attribute (.Call (.Name "super" a0) [] [] a1) "__init__" a2) [.Constant (.str msg) j a3] [] a4) env = (do
      let ov ← attributeBase (.Call (.Name "super" a0) [] [] a1) "__init__" env (eval (.Call (.Name "super" a0) [] [] a1) env)
      standAt a2.atName
      methodCall (.Call (.Name "super" a0) [] [] a1) "__init__" a2 a4 env ov ([Expr.Constant (.str msg) j a3].length + ([] : List Keyword).length) (backTo a4 (starEach [.Constant (.str msg) j a3] env)) (backToKw a4 (keywordEach [] env))) := by
    rfl
  rw [q]
  unfold methodCall calleeOf
  simp only [f1 (pure .none), if_true, e, importBound, pure_bind, Option.getD_some]
  rfl
section
variable {prog : Program} {w : World} {A : Around} {E : Value → Shared → Prop} {h : Heap} {g : Array GenState} {d : Drawn} {t : Nat} {os : OsState}
variable {nm q : Str} {C N : Addr} {bs bm : List Value} {hdct : Bool} {sn : List Str} {sub : List Value} {ab : Bool} {col : Option Bool} {dd : Option Addr} {k0 k1 k2 k3 k5 : Option Value}
/-- the wrapper of ValueError.__init__ at u, bound to the error at e, is called -/
theorem call_mwV {u e t0 : Addr} {more : List Value} {Q : Value → Shared → Prop}
    (hC : h.get? C = some (excClassObj nm q C N bs bm hdct sn sub ab col dd k0 k1 k2 k3 k5 "ValueError.__new__")) (he : h.get? e = some (HandSPX.excO C t0)) (hu : h.get? u = some (PySem.W.kxs_mw "ValueError.__init__" e)) (hm : more.length ≤ sizeLine)
    (hq : ∀ h' t1, (∀ b o, b ≠ e → h.get? b = some o → h'.get? b = some o) → h'.get? e = some (HandSPX.excO C t1) → Q .none ⟨h', g, d, t, os⟩) :
    wpAny (model prog w) A (call (.ref u) more) Q E ⟨h, g, d, t, os⟩ := by
  refine wpAny_call (codeAny_of_tree ?_)
  show wpAny _ A.in1 (callAny (.ref u) ⟨more, []⟩) _ _ _
  simp only [callAny]
  refine wpAny_bind (wpAny_load hu ?_)
  simp only [PySem.W.kxs_mw, show (Value.type "method-wrapper" == Value.type "method" || Value.type "method-wrapper" == Value.type "builtin_function_or_method" || Value.type "method-wrapper" == Value.type "method-wrapper") = true by decide, if_true]
  refine PySem.W.KFB.if_so (by decide) ?_
  refine wpAny_bind (PySem.ESX.check_bound F.excBase_ValueError hC he rfl ?_)
  refine wpAny_bind (wpAny_pure (wpAny_pure ?_))
  refine ⟨Code.quiet_builtin _ (by decide +kernel), codeAny_builtin F.excBase_ValueError.initEntry ?_⟩
  rw [Around.under_plainId F.excBase_ValueError.init.plain _]
  wp_walk
  refine hq _ h.objs.size (fun b o hb ho => ?_) ?_
  · rw [Heap.get?_update_other _ _ (Ne.symm hb)]
    exact Heap.get?_push_of_some _ ho
  · rw [Heap.get?_update_self _ (Heap.get?_push_of_some _ he) rfl]
    rfl
end
theorem fn_excInit {P : Program} {w : World} {K : PySem.W.Frag} {mg : Str → Option Value} {base : Heap} {CX : CXT} {f C cda cc : Addr} {qual nm fld msg : Str} {scope : Scope}
    {p1 p2 a0 a1 a2 a3 a4 a5 b1 b2 b3 b4 : Pos} {j : Nat} {oc kV doc pm ct ccl cl : Value} {an od cdd cld : Option Addr} {osl ccs csl : Array (Option Value)} {cvs : Array Value} {file : Str} {tf : Tok} {cd : ClassData}
    (lk : K.lookup f = some ⟨oc, od, .func (PySem.W.ksFn "__init__" qual (xArgs p1 p2 nm) (xBody msg fld nm j a0 a1 a2 a3 a4 a5 b1 b2 b3 b4) scope .none kV doc pm an (.ref cda) ct cc), osl⟩)
    (hcd : PySem.W.codeIn K (.ref cda) qual = true) (hcode : K.lookup cda = some ⟨ccl, cdd, .fields cvs, ccs⟩) (hvs : cvs[2]? = some (.str file tf)) (hfile : ((P.main.file : Str) == file) = true)
    (hcell : K.lookup cc = some ⟨cl, cld, .cell (some (.ref C)), csl⟩)
    (ss : scope.names.lookup ("super" : Str) = some .globalImplicit) (sc : scope.names.lookup ("__class__" : Str) = some .free) (sl : scope.names.lookup ("self" : Str) = some .local) (sn : scope.names.lookup nm = some .local)
    (sk : scope.kind = .function) (nocell : ∀ x ∈ scope.names, x.2 ≠ .cell) (sco : scope.isCoroutine = false) (sgen : scope.isGenerator = false) (hne : ¬ nm = ("self" : Str)) (hdb : (nm == ("__debug__" : Str)) = false)
    (hcl : PySem.W.clsIn K C = some cd) (hsub : PySem.W.mroIn K C (.ref C) = some true) (hal : PySem.W.alongIn K "__init__" ((cd.mro.dropWhile (· != .ref C)).drop 1) = some (some (.builtin "ValueError.__init__")))
    (hVE : PySem.W.subIn K (.ref C) (.type "ValueError") = some true) (hop : PySem.W.nsIn K cStatics "thirdparty.any" = some none) (hsup : mg "super" = none) (htop : (P.main.scope.names.lookup ("super" : Str)).isSome = false)
    (T : OexC K C) (hno : PySem.W.findIn K (.ref C) fld = some none) (hpos : (a2.endLine == a4.line) = true) (hbind : ∀ (s : Shared) (u v : Value), BindsTo s (PySem.W.ksFn "__init__" qual (xArgs p1 p2 nm) (xBody msg fld nm j a0 a1 a2 a3 a4 a5 b1 b2 b3 b4) scope .none kV doc pm an (.ref cda) ct cc) ⟨[u, v], []⟩ [("self", u), (nm, v)]) :
    FnR P w K mg base CX 1 f (spX C fld) := by
  intro A outer s H us vs Q E hr e0 r hs
  obtain ⟨a, v, rfl, ha, k⟩ := hs
  obtain ⟨u0, u, rfl, r0, ru⟩ := vals2 r
  obtain rfl : u0 = Value.ref a := r0
  have KX : K.In s.heap := e0.mod.kin.keeps fun b o e => (e0.bs b o e).1
  have lim : s.heap.NoLimit := e0.mod.nolimit.keeps fun b o e => (e0.bs b o e).1
  refine PySem.ks_codeAny_call_defAt hr.depth (KX _ _ lk) rfl lim (PySem.W.codeRec_of KX hcd) rfl (hbind s (.ref a) u) nocell (fun x hx => ?_) (fun h1 hns hk1 => ?_) sco sgen sk
  · rcases List.mem_cons.mp hx with rfl | hx
    · exact sl
    · rcases List.mem_cons.mp hx with rfl | hx
      · exact sn
      · cases hx
  obtain ⟨t1, hoe⟩ := exo_at e0.hok ha
  obtain ⟨hp, g, d, tk, os⟩ := s
  have K1 : K.In h1 := KX.keeps hk1
  have I1 : PySem.W.InstAt h1 a _ C none := ⟨hk1 _ _ hoe, rfl, rfl, trivial⟩
  have base1 : ∀ b o, base.get? b = some o → h1.get? b = some o := fun b o e => hk1 b o (e0.bs b o e).1
  obtain ⟨mb, hmb, hmb2⟩ := e0.mod.blt
  obtain ⟨oD, hD1, hD2⟩ : ∃ oD, h1.get? C = some oD ∧ oD.data = .cls cd := by
    unfold PySem.W.clsIn at hcl
    split at hcl
    · rename_i c d cd' sl ho
      cases hcl
      exact ⟨_, K1 _ _ ho, rfl⟩
    · cases hcl
  have m0 : (List.lookup ("self" : Str) ([(("self" : Str), Value.ref a), (nm, u)] : List (Str × Value)).reverse) = some (Value.ref a) := by
    show List.lookup ("self" : Str) [(nm, u), (("self" : Str), Value.ref a)] = _
    have e : ((("self" : Str)) == nm) = false := by simpa using fun z => hne z.symm
    simp [List.lookup, e]
  have m1 : (List.lookup nm ([(("self" : Str), Value.ref a), (nm, u)] : List (Str × Value)).reverse) = some u := by
    show List.lookup nm [(nm, u), (("self" : Str), Value.ref a)] = _
    simp [List.lookup]
  refine PySem.ks_wpAt_execs_cons (PySem.ks_wpAt_Expr_any (PySem.ks_wpAt_MethodCall ?_ (super_call_eq hpos)) (by simp [interactive, callEnv, newEnv, sk]) (by rfl))
  refine PySem.ks_wpAt_super_base (env := _) ss sc (by decide) rfl (K1 _ _ lk) rfl rfl rfl (K1 _ _ hcode) rfl hvs hfile htop ?_
  refine PySem.W.ks_loadName_global sk ss (Calls.loadGlobal_builtin (e0.mod.glob.keeps base1) hsup (hmb.keeps base1) ((hmb2 _ (by decide +kernel)).trans (by decide +kernel)) ⟨rfl, ?_⟩)
  refine wpAny_loadName_free sk sc rfl ⟨_, K1 _ _ hcell, rfl⟩ ?_
  refine wpAny_loadName_local sk sl hns m0 ?_
  refine PySem.ks_wpAny_isType_cls hD1 hD2 ⟨rfl, ?_⟩
  refine PySem.ks_wpAny_call_super hD1 hD2 I1.at_ I1.cls (fun c e => by cases e) (PySem.W.looks_mroIn K1 hsub) (fun h2 e2 k2 => ?_)
  have K2 : K.In h2 := K1.keeps k2
  have I2 : PySem.W.InstAt h2 a _ C none := ⟨k2 _ _ I1.at_, rfl, rfl, trivial⟩
  refine PySem.W.kxs_getMethod PySem.W.kxs_ValueError e2 (PySem.W.looks_opaque K2 hop) (l₀ := cd.mro) (fun A Q E s k q => wpAny_bind ((PySem.W.looks_clsIn K2 hcl) A _ E s k (wpAny_pure q))) rfl K2 hal (I2.type.andThen (PySem.W.looks_subIn K2 hVE)) (PySem.W.ks_ne K2 I2 hcl) (by decide) ?_
  have K3 : K.In (h2.push (PySem.W.kxs_mw "ValueError.__init__" a)) := K2.keeps fun b o e => Heap.get?_push_of_some _ e
  obtain ⟨nm', q', N, bs, bm, sn', sub, ab, col, dd, k0, k1, k2', k3, k5, hC, hbm⟩ := T.cls
  refine PySem.W.kxs_callWith (i := "ValueError.__init__") (x := a) (by rfl) (Calls.evalArgs_plain (PyProof.Rows.spliced_more (Calls.Constant_str (Calls.spliced_nil ⟨Heap.get?_push_at rfl rfl, ?_⟩)) (by rfl)))
  refine call_mwV (K3 _ _ hC) (Heap.get?_push_of_some _ I2.at_) (Heap.get?_push_at rfl rfl) (by rw [sizeLine_eq]; exact (by decide : 1 ≤ 16777216)) fun h4 t4 k4 x4 => ?_
  -- self.f = x
  have old4 : ∀ b o, b ≠ a → hp.get? b = some o → h4.get? b = some o := fun b o hb e => k4 b o hb (Heap.get?_push_of_some _ (k2 _ _ (hk1 _ _ e)))
  have K4 : K.In h4 := fun b o e => by
    have hb : b ≠ a := fun z => by
      subst z
      have q := (e0.bs _ _ (e0.mod.kin _ _ e)).2
      rw [ha] at q
      cases q
    exact k4 b o hb (K3 b o e)
  have hLa : hp.objs.size ≠ a := Nat.ne_of_gt (Heap.lt_size hoe)
  have hns4 : h4.Ns hp.objs.size (fun x => List.lookup x ([(("self" : Str), Value.ref a), (nm, u)] : List (Str × Value)).reverse) := by
    obtain ⟨o, es, ep, ho, q⟩ := hns
    exact ⟨o, es, ep, k4 _ _ hLa (Heap.get?_push_of_some _ (k2 _ _ ho)), q⟩
  refine PySem.ks_wpAt_execs_cons (wpAt_of_wpAny (PySem.plainObj_wpAny_Assign_Attribute (wpAny_Name (wpAny_loadName_local sk sn hns4 m1 ?_) hdb) (by rfl)))
  refine wpAny_Name (wpAny_loadName_local sk sl hns4 m0 ?_) (by decide)
  have hcl' : PySem.W.clsIn K C = some { name := nm', bases := bs, mro := .ref C :: bm, ns := N, qualname := q', hasDict := true, slotNames := sn', subclasses := sub, abstract := ab, collection := col, hasDel := false } := by unfold PySem.W.clsIn; rw [hC] <;> rfl
  refine PySem.W.set_plain K4 (ox := { cls := .ref C, dict := none, data := .fields #[.ref t4, .none, .none, .none, .bool false, .none] }) (od := none) ⟨x4, rfl, rfl, trivial⟩ T.sa ?_
  refine PySem.HandSPX.exc_osa K4 x4 hcl' (show PySem.HandSPX.refsVE (.ref C :: bm) = true from hbm) rfl hno (fun h5 tk5 dx k5' dn dne hx hn => ?_)
  have hsz : hp.objs.size ≤ h4.objs.size := by
    obtain ⟨o, es, ep, ho, q⟩ := hns4
    exact Nat.le_of_lt (Heap.lt_size ho)
  have old5 : ∀ b o, b ≠ a → hp.get? b = some o → h5.get? b = some o := fun b o hb e => k5' b o hb (old4 b o hb e)
  have hnd : H dx = none := e0.hok.fresh (Nat.le_trans hsz dn)
  have nd : ∀ {b : Addr} {o : Obj}, hp.get? b = some o → b ≠ dx := fun {b o} q => Nat.ne_of_lt (Nat.lt_of_lt_of_le (Heap.lt_size q) (Nat.le_trans hsz dn))
  have na : ∀ {b : Addr}, H b = none → b ≠ a := fun {b} n z => by rw [z, ha] at n; cases n
  refine wpAt_of_wpAny (wpAny_execs_nil ?_)
  refine ⟨V.non, _, rfl, e0.bare, ?_, ?_, rfl, k dx hnd dne⟩
  · exact {
      keep := fun b o q n _ _ => old5 b o (na n) q
      slot := fun b o q n _ _ => ⟨o.slots, old5 b o (na n) q⟩
      free := fun b o q n _ => by rw [upd_ne (na n), upd_ne (nd q)]; exact n
      there := fun b o q _ => by
        by_cases hb : b = a
        · exact ⟨_, by rw [hb]; exact hx⟩
        · exact ⟨o, old5 b o hb q⟩
      tups := fun b xs q => by rw [upd_ne (at_ne ha q exo_tup), upd_ne (ne_of_none q hnd)]; exact q
      frzs := fun b o v q => by rw [upd_ne (at_ne ha q exo_frz), upd_ne (ne_of_none q hnd)]; exact q
      tbls := fun b ps q => ⟨#[], by rw [upd_ne (at_ne ha q exo_tbl), upd_ne (ne_of_none q hnd), q]; simp⟩ }
  · intro b o q
    by_cases hb : b = a
    · subst hb
      rw [upd_same] at q
      cases q
      exact exo_ok hx
    · rw [upd_ne hb] at q
      by_cases hd : b = dx
      · subst hd
        rw [upd_same] at q
        cases q
        exact exd_ok hn (relO_put (fs := []) ru fun g => True.intro)
      · rw [upd_ne hd] at q
        exact (e0.hok b o q).stay (fun c v hc z => old5 c v (by
            rcases hc with hc | hc
            · rw [hc]
              exact hb
            · exact at_ne ha hc exo_own) z)
          (fun c hc => by rw [upd_ne (at_ne ha hc exo_own), upd_ne (ne_of_none hc hnd)]; exact hc) (fun c xs hc => by rw [upd_ne (at_ne ha hc exo_tup), upd_ne (ne_of_none hc hnd)]; exact hc)
end Lb

/-! Lb4: raising and catching such errors; defs called in an except suite. -/
namespace Lb
open PySem PySem.Spec PyProof.Rows L2
/-- an own error class that keeps one field -/
structure XTxt (P : Program) (K : PySem.W.Frag) (mg : Str → Option Value) (nm : Str) (C fI : Addr) (fld : Str) : Prop where
  g : mg nm = some (.ref C)
  T : OexC K C
  iC : PySem.W.findIn K (.ref C) "__init__" = some (some (.ref fI))
  tI : PySem.W.typeIn K (.ref fI) = some (.type "function")
  run : ∀ (w : World) (base : Heap), FnR P w K mg base (L2.CX P w) 1 fI (spX C fld)
  xf : XfC K C
  no : PySem.W.findIn K (.ref C) fld = some none
  ec : ExcC K C
/-- C(v) raised: its dict is new and holds v -/
def tMkX (C : Addr) (fld : Str) (ta : TA) : L2.St → Hp → XK → Prop := fun σ H Q => ta σ H fun vs H1 => ∃ v, vs = [v] ∧ ∀ d, H1 d = none → Q (.ref C) (some d) (upd H1 d (.xd [(fld, v)]))
section
variable {X : Cx} {nm fld : Str} {C fI : Addr} {W : WX} {e : Expr} {ta : TA} {p pos pos' : Pos}
theorem pmk_X (T : XTxt X.prog X.K X.mg nm C fI fld) (hr : Room 2 X.A) (hg : Gl X nm) (ha : PA X [e] ta)
    (hdb : (nm == ("__debug__" : Str)) = false := by decide) (he : starEach [e] X.env = (false, eval e X.env) :: starEach [] X.env := by rfl) (hpl : (backTo pos (starEach [] X.env)).any (·.1) = false := by rfl) :
    PMk X (.Call (.Name nm p) [e] [] pos) (tMkX C fld ta) := by
  intro pins s σ H Q I h
  obtain ⟨nm', q, N, bs, bm, sn, sub, ab, col, dd, k0, k1, k2, k3, k5, hC, hbm⟩ := T.T.cls
  refine wpAny_Call_Name_kw (ld_glob I hg T.g ?_ hdb)
  refine PySem.W.callWith_K (h₀ := X.base) I.ok.mod.kin T.T.kC (thn (ha.run pos pins s σ H _ I h) fun us s1 ⟨vs, H1, I1, r1, v, ev, q1⟩ => ⟨I1.kIn, ?_⟩) he hpl
  subst ev
  obtain ⟨hp, g, dr, tk, os⟩ := s1
  have hn : H1 (hp.objs.size + 1) = none := I1.hok.fresh (Nat.le_succ _)
  have up : ∀ b o, hp.get? b = some o → ((hp.push (PySem.W.kdv_tup us)).push (PySem.HandSPX.excO C hp.objs.size)).get? b = some o := fun b o e => Heap.get?_push_of_some _ (Heap.get?_push_of_some _ e)
  have at_ : ((hp.push (PySem.W.kdv_tup us)).push (PySem.HandSPX.excO C hp.objs.size)).get? (hp.objs.size + 1) = some (PySem.HandSPX.excO C hp.objs.size) := by heap_get
  have I2 : Inv X pins σ (upd H1 (hp.objs.size + 1) (exo (hp.objs.size + 1) C none)) ⟨(hp.push (PySem.W.kdv_tup us)).push (PySem.HandSPX.excO C hp.objs.size), g, dr, tk, os⟩ := I1.laid (t' := tk) up (Nat.le_succ _) (exo_ok at_)
  have hus : us.length ≤ sizeLine := by
    rw [← Paired.length r1, sizeLine_eq]
    exact (by decide : 1 ≤ 16777216)
  have hsp : spX C fld (.ref (hp.objs.size + 1) :: [v]) (upd H1 (hp.objs.size + 1) (exo (hp.objs.size + 1) C none)) (fun z H2 => z = .non ∧ ∃ (d : Addr), H1 d = none ∧ d ≠ hp.objs.size + 1 ∧ H2 = upd (upd (upd H1 (hp.objs.size + 1) (exo (hp.objs.size + 1) C none)) d (exd d [(fld, v)])) (hp.objs.size + 1) (exo (hp.objs.size + 1) C (some d))) (fun _ _ _ => False) :=
    ⟨_, v, rfl, upd_same, fun d hd hne => ⟨rfl, d, by rw [upd_ne hne] at hd; exact hd, hne, rfl⟩⟩
  refine wpAny_call (PySem.HandSPX.call_own F.excBase_ValueError (fun Y => PySem.HandSPX.refsVE_contains Y bm hbm) (I1.kIn _ _ hC) (PySem.W.looks_findIn I1.kIn T.iC) (fun self => PySem.W.bind_fn I1.kIn self T.tI) hus
    (codeAny_mono (T.run X.w X.base _ X.stack _ _ (Value.ref (hp.objs.size + 1) :: us) _ _ (fun _ _ _ => False) (hr.make C us []) (I2.env0.make C us []) (show Vals (V.ref (hp.objs.size + 1) :: [v]) (Value.ref (hp.objs.size + 1) :: us) from .cons rfl r1) hsp) fun r s' hq' => ?_))
  cases r with
  | error er =>
    obtain ⟨_, _, _, _, _, _, _, _, _, _, _, _, z⟩ := hq'
    exact z.elim
  | ok fl =>
    cases fl with
    | ret u =>
      obtain ⟨z, H2, os2, bare2, un2, hok2, rv, ev, d, hd1, hne, eH⟩ := hq'
      subst ev
      obtain ⟨h2, g2, d2, t2, os'⟩ := s'
      refine ⟨rv, mk_end (fs := [(fld, v)]) (d := d) (raises_own T.T.exC T.T.tyC) I1 (Nat.le_succ _) up un2 hok2 os2 bare2 (by rw [eH, upd_same]) (by rw [eH, upd_ne hne, upd_same]) hd1 ?_⟩
      have e3 : upd (L2.del H2 (hp.objs.size + 1)) d (.xd [(fld, v)]) = upd H1 d (.xd [(fld, v)]) := by
        funext b
        by_cases hb : b = d
        · rw [hb, upd_same, upd_same]
        · rw [upd_ne hb, upd_ne hb]
          by_cases hc : b = hp.objs.size + 1
          · rw [hc, del_same, hn]
          · rw [del_ne hc, eH, upd_ne hc, upd_ne hb, upd_ne hc]
      rw [e3]
      exact q1 d hd1
    | next => exact False.elim hq'
    | brk => exact False.elim hq'
    | cont => exact False.elim hq'
/-- raise X(e) -/
def tRaiseX (C : Addr) (fld : Str) (W : WX) (ta : TA) : TS := fun _ σ H => ta σ H fun vs H1 => ∃ v, vs = [v] ∧ ∀ d, H1 d = none → W (.ref C) (some d) σ (upd H1 d (.xd [(fld, v)]))
theorem ps_raiseX (T : XTxt X.prog X.K X.mg nm C fI fld) (hr : Room 2 X.A) (hc : X.calm = true) (tk : Takes X W) (hg : Gl X nm) (ha : PA X [e] ta)
    (hdb : (nm == ("__debug__" : Str)) = false := by decide) (he : starEach [e] X.env = (false, eval e X.env) :: starEach [] X.env := by rfl) (hpl : (backTo pos (starEach [] X.env)).any (·.1) = false := by rfl) :
    PS X (.Raise (some (.Call (.Name nm p) [e] [] pos)) none pos') (tRaiseX C fld W ta) := ps_raise hc tk (pmk_X T hr hg ha hdb he hpl)
theorem c_raiseX {C : Addr} {fld : Str} {W : WX} {ta : TA} {D : Ends} {σ : L2.St} {H : Hp} (q : ta σ H fun vs H1 => ∃ v, vs = [v] ∧ ∀ d, H1 d = none → W (.ref C) (some d) σ (upd H1 d (.xd [(fld, v)]))) : tRaiseX C fld W ta D σ H := q
end

/-! ### try .. except X as n -/
section
variable {X : Cx} {x n : Str} {c : Value} {i : Nat} {body suite : List Stmt} {b0 : Stmt} {np pos pos' : Pos} {Wout : WX}
abbrev TB := WX → List (Addr × Obj) → (Value → Shared → Prop) → TS
abbrev TSu := Addr → Value → Option Addr → Obj → List (Addr × Obj) → TS
def tbA (tb : TB) : WX → TS := fun W D σ H => ∀ pn xe, tb W pn xe D σ H
def tsA (ts : TSu) : Addr → Value → Option Addr → TS := fun a cls d D σ H => ∀ oe pn, ts a cls d oe pn D σ H
def tTryAs (K : PySem.W.Frag) (c : Value) (i : Nat) (tb : TB) (ts : TSu) (Wout : WX) : TS := fun D σ H => ∀ pn xe, tb (wAs K c i (tsA ts) Wout D) pn xe D σ H
theorem pss_of {X : Cx} {b : List Stmt} {t u : TS} (h : PSs X b t) (k : ∀ D σ H, u D σ H → t D σ H) : PSs X b u := ⟨fun pins s σ H D I q => h.run pins s σ H D I (k D σ H q)⟩
theorem ps_tryAs {tb : TB} {ts : TSu} (hs : X.stack = X.env :: X.outer) (hf : X.env.frame = some X.env.locals) (hN : X.N.Nodup) (hi : X.N[i]? = some n) (hln : X.env.kindOf n = some .local) (hc : Names X x c) (tk : Takes X Wout)
    (hb : ∀ (W : WX) (pn : List (Addr × Obj)) (xe : Value → Shared → Prop), Takes (X.tr pn xe) W → PassesOwn (model X.prog X.w) X.A X.env xe → PSs (X.tr pn xe) body (tb W pn xe))
    (hsu : ∀ (a : Addr) (oe : Obj) (cls : Value) (d : Option Addr) (pn : List (Addr × Obj)), Zc cls d oe → (∃ vs, oe.data = .fields vs) → PSs (X.suite a ((a, oe) :: pn)) (b0 :: suite) (ts a cls d oe pn)) :
    PS X (.Try body [.ExceptHandler (some (.Name x np)) (some n) (b0 :: suite) pos'] [] [] pos) (tTryAs X.K c i tb ts Wout) :=
  ps_try_as (tb := tbA tb) (ts := tsA ts) (Wout := Wout) hs hf hN hi hln hc tk (fun W pn xe tk' po => pss_of (hb W pn xe tk' po) fun D σ H q => q pn xe) (fun a oe cls d pn hz hfl => pss_of (hsu a oe cls d pn hz hfl) fun D σ H q => q oe pn)
def tTryOnly (K : PySem.W.Frag) (c : Value) (tb : TB) (ts : TSu) (Wout : WX) : TS := fun D σ H => ∀ pn xe, tb (wOnly K c (tsA ts) Wout D) pn xe D σ H
theorem ps_tryOnly {tb : TB} {ts : TSu} (hs : X.stack = X.env :: X.outer) (hf : X.env.frame = some X.env.locals) (hc : Names X x c) (tk : Takes X Wout)
    (hb : ∀ (W : WX) (pn : List (Addr × Obj)) (xe : Value → Shared → Prop), Takes (X.tr pn xe) W → PassesOwn (model X.prog X.w) X.A X.env xe → PSs (X.tr pn xe) body (tb W pn xe))
    (hsu : ∀ (a : Addr) (oe : Obj) (cls : Value) (d : Option Addr) (pn : List (Addr × Obj)), Zc cls d oe → (∃ vs, oe.data = .fields vs) → PSs (X.suite a ((a, oe) :: pn)) (b0 :: suite) (ts a cls d oe pn)) :
    PS X (.Try body [.ExceptHandler (some (.Name x np)) none (b0 :: suite) pos'] [] [] pos) (tTryOnly X.K c tb ts Wout) :=
  ps_try_only (tb := tbA tb) (ts := tsA ts) (Wout := Wout) hs hf hc tk (fun W pn xe tk' po => pss_of (hb W pn xe tk' po) fun D σ H q => q pn xe) (fun a oe cls d pn hz hfl => pss_of (hsu a oe cls d pn hz hfl) fun D σ H q => q oe pn)
end
/-! ### in the suite: isinstance of the error -/
def rIsX (K : PySem.W.Frag) (cls : Value) (d : Option Addr) (D a : Addr) : List V → Hp → VK → Prop := fun xs H Q => ∃ (c : V) (cv : Value) (b : Bool) (dd : Addr) (fs : List (Str × V)), xs = [.ref a, c] ∧ cls = .ref D ∧ d = some dd ∧ H dd = some (.xd fs) ∧ ClsV c cv ∧ PySem.W.kitOne K (.ref D) cv = some b ∧ Q (.bl b) H
theorem call_isX {X : Cx} {a D : Addr} {cls : Value} {d : Option Addr} {oe : Obj} {pn : List (Addr × Obj)} (C : ExcC X.K D) (hz : Zc cls d oe) (hf : ∃ vs, oe.data = .fields vs) : CallR (X.suite a ((a, oe) :: pn)) (.builtin "isinstance") (rIsX X.K cls d D a) := by
  intro pins s σ H xs us Q I r h
  obtain ⟨c, cv, b, dd, fs, rfl, rfl, rfl, hd, hcv, e, q⟩ := h
  obtain ⟨u1, u2, rfl, r1, r2⟩ := vals2 r
  obtain rfl : u1 = Value.ref a := r1
  have e2 := hcv.eq r2
  subst e2
  obtain ⟨hget, _⟩ := I.pin (a, oe) (List.mem_append.mpr (.inl List.mem_cons_self))
  obtain ⟨vs, hv⟩ := hf
  have hx : ObjOk X.prog X.w H s.heap dd (.xd fs) := I.hok dd _ hd
  obtain ⟨mA, hns, _⟩ := hx
  obtain ⟨od, ho, _⟩ := lookIn_ns hns
  have J : PySem.W.InstAt s.heap a oe D (some od) := ⟨hget, hz.1, by unfold PySem.W.notCls; rw [hv] <;> rfl, by rw [hz.2]; exact ho⟩
  exact PySem.W.kia_one (PySem.W.kitx_exc (by obtain ⟨cd, hc, _⟩ := PySem.W.any_some C.hd; rw [hc]; rfl) C.hg C.hk C.hs C.ha C.hn C.ht C.hm) I.kIn J e (fun z => nomatch z) fun tk => ⟨.bl b, H, I.kept (t' := tk) fun _ _ z => z, rfl, q⟩
/-! ### defs that let nothing out, called whatever is handled -/
open L2H (RoomH roomH_of)
def FnC (P : Program) (w : World) (K : PySem.W.Frag) (mg : Str → Option Value) (base : Heap) (k : Nat) (f : Addr) (sp : Sp) : Prop :=
  ∀ (A : Around) (outer : List Env) (s : Shared) (H : Hp) (us : List Value) (vs : List V) (Q : VK), RoomH k A → Env0 P w K mg base A outer s H → Vals vs us → sp vs H Q E0 →
    codeAny (model P w) A (.call (.ref f) ⟨us, []⟩) (CR CX0 outer P w H s Q E0) s
/-- a context that asks nothing of what is handled -/
def cxN (P : Program) (w : World) (K : PySem.W.Frag) (mg : Str → Option Value) (base : Heap) (N : List Str) (qual : Str) (scope : Scope) (f : Addr) (cd : Value) (A : Around) (outer : List Env) (s : Shared) (H : Hp) : Cx :=
  { cxOf CX0 P w K mg base N qual scope f cd A outer s H E0 with calm := false, xe := fun _ _ => False }
theorem Inv.cool {X : Cx} {pins : List (Addr × Obj)} {σ : L2.St} {H : Hp} {s : Shared} (I : L2.Inv X pins σ H s) {A : Around} (hA : A.frames = X.A.frames) (E : Value → Shared → Prop) : L2.Inv { X with A := A, calm := false, xe := E } pins σ H s :=
  have k := I.ok
  ⟨⟨k.mod, k.kind, k.glob, k.blt, k.above, k.inj, k.has, k.cab, (fun z => by cases z), hA.trans k.frames, k.stk, k.exf, k.bs, k.bsz, k.noex, k.exfs, k.funs, k.frf⟩, I.os, I.bare, I.base, I.loc, I.cell, I.free, I.freeC, I.pin, I.hok, I.len⟩
theorem fnC_of {P : Program} {w : World} {K : PySem.W.Frag} {mg : Str → Option Value} {base : Heap} {k : Nat} {x qual : Str} {st : Stmt} {f : Addr} {fd : FuncData} {N ps : List Str} {sp : Sp} (F : Fun K x qual st f fd) (bF : Binds K fd ps []) (S : FnScope N ps (defScope st))
    (len : ∀ vs H Q E, sp vs H Q E → vs.length = ps.length)
    (hbody : ∀ (cdv : Value) (A : Around) (outer : List Env) (s : Shared) (H : Hp) (vs : List V) (Q : VK) (E : XK), RoomH k (A.deeper (envOfC qual (defScope st) s.heap.objs.size f cdv)) → sp vs H Q E →
      ∃ t, PSs (cxN P w K mg base N qual (defScope st) f cdv A outer s H) (defBody st) t ∧ t { nx := fun _ H' => Q .non H', rt := Q } (start N vs) H) : FnC P w K mg base (k + 1) f sp := by
  obtain ⟨oc, od, kV, doc, pm, an, cdv, ct, osl, rfl, lk, hcd⟩ := F.ex
  intro A outer s H us vs Q hr e0 r hsp
  have hl := len _ _ _ _ hsp
  have KX : K.In s.heap := e0.mod.kin.keeps fun b o e => (e0.bs b o e).1
  have lim : s.heap.NoLimit := e0.mod.nolimit.keeps fun b o e => (e0.bs b o e).1
  have hlu : us.length = ps.length := r.length.symm.trans hl
  have hkind : ∀ y ∈ ps.zip us, (defScope st).names.lookup y.1 = some .local ∨ ((defScope st).names.lookup y.1 = some .cell ∧ ((cellsFrom (s.heap.objs.size + 1) (defScope st).names []).lookup y.1).isSome = true) := fun ⟨n, v⟩ hy => by
    rcases S.par n (List.of_mem_zip hy).1 with q | q
    · exact .inl q
    · exact .inr ⟨q, PySem.W.cellsFrom_some _ _ _ (.inl q)⟩
  have hb := bF s us KX (by rw [List.append_nil]; exact hlu)
  rw [List.append_nil] at hb
  refine codeAny_call_function hr.depth (KX _ _ lk) rfl S.co S.gen rfl (PySem.W.codeRec_of KX hcd) (hb _ _ _ _ ?_)
  refine wpAny_newFunctionEnv_cells S.kind hkind fun env he s1 z => ?_
  subst he
  refine ⟨lim.keeps z.toInCall.keep, codeAny_func ?_⟩
  obtain ⟨t, ht, hq⟩ := hbody cdv A outer s H vs Q E0 (hr.deeper _) hsp
  have e0' : Env0 P w K mg base { A with handled := none } outer s H := ⟨e0.frames, e0.mod, e0.bs, e0.bsz, e0.funs, e0.frf, e0.hok, e0.bare⟩
  have I0 := inv_start (CX := CX0) (E := E0) S rfl e0' hl r z
  have I : L2.Inv (cxN P w K mg base N qual (defScope st) f cdv A outer s H) [] (start N vs) H s1 := Inv.cool I0 (A := A.deeper (envOfC qual (defScope st) s.heap.objs.size f cdv)) rfl _
  refine wpAny_mono (ht.run [] s1 (start N vs) H _ I hq) (fun fl s' hs => ?_) fun e s' hs => hs.elim
  have fin : ∀ {σ' : L2.St} {H' : Hp} {v : V} {u : Value}, L2.Inv (cxN P w K mg base N qual (defScope st) f cdv A outer s H) [] σ' H' s' → RelV v u → Q v H' → CE outer P w H s Q u s' :=
    fun {σ' H' v u} J rv q => ⟨v, H', J.os, J.bare, J.base, J.hok, rv, q⟩
  cases fl with
  | ret u =>
    obtain ⟨v, σ', H', J, rv, q⟩ := hs
    exact fin J rv q
  | next =>
    obtain ⟨σ', H', J, q⟩ := hs
    exact fin (v := V.non) (u := Value.none) J rfl q
  | brk =>
    obtain ⟨σ', H', J, q⟩ := hs
    exact q.elim
  | cont =>
    obtain ⟨σ', H', J, q⟩ := hs
    exact q.elim
def tCallC (sp : Sp) (t : TA) : TE := fun σ H Q => t σ H fun vs H1 => sp vs H1 Q E0
section
variable {X : Cx} {k : Nat} {f : Addr} {sp : Sp} {x : Str} {e : Expr} {es : List Expr} {t : TA} {p pos : Pos}
theorem pe_callC (F : FnC X.prog X.w X.K X.mg X.base k f sp) (hr : RoomH k X.A) (hg : Gl X x) (hm : X.mg x = some (.ref f)) (hk : PySem.W.keepIn X.K (.ref f) = true)
    (ha : PA X (e :: es) t) (hdb : (x == ("__debug__" : Str)) = false := by decide) (he : starEach (e :: es) X.env = (false, eval e X.env) :: starEach es X.env := by rfl) (hpl : (backTo pos (starEach es X.env)).any (·.1) = false := by rfl) :
    PE X (.Call (.Name x p) (e :: es) [] pos) (tCallC sp t) := by
  refine ⟨fun pins s σ H Q I h => ?_⟩
  refine wpAny_Call_Name_kw (ld_glob I hg hm ?_ hdb)
  refine PySem.W.callWith_K (h₀ := X.base) I.ok.mod.kin hk (thn (ha.run pos pins s σ H _ I h) fun us s1 ⟨vs, H1, I1, r, q⟩ => ⟨I1.kIn, ?_⟩) he hpl
  refine wpAny_call (codeAny_mono (F X.A X.stack s1 H1 us vs Q hr I1.env0 r q) fun r s' hq => ?_)
  cases r with
  | error e => exact False.elim hq
  | ok fl =>
    cases fl with
    | ret u => exact I1.after hq
    | next => exact False.elim hq
    | brk => exact False.elim hq
    | cont => exact False.elim hq
theorem c_callC {σ : L2.St} {H : Hp} {Q : VK} (q : t σ H fun vs H1 => sp vs H1 Q E0) : tCallC sp t σ H Q := q
end
structure XScope (scope : Scope) (nm : Str) : Prop where
  ss : scope.names.lookup ("super" : Str) = some .globalImplicit
  sc : scope.names.lookup ("__class__" : Str) = some .free
  sl : scope.names.lookup ("self" : Str) = some .local
  sn : scope.names.lookup nm = some .local
  sk : scope.kind = .function
  nocell : ∀ x ∈ scope.names, x.2 ≠ .cell
  sco : scope.isCoroutine = false
  sgen : scope.isGenerator = false
theorem xtxt_mk {P : Program} {K : PySem.W.Frag} {mg : Str → Option Value} {C f cda cc : Addr} {cname qual nm fld msg : Str} {scope : Scope} {params : Arguments} {body : List Stmt}
    {p1 p2 a0 a1 a2 a3 a4 a5 b1 b2 b3 b4 : Pos} {j : Nat} {oc kV doc pm ct ccl cl : Value} {an od cdd cld : Option Addr} {osl ccs csl : Array (Option Value)} {cvs : Array Value} {file : Str} {tf : Tok} {cd : ClassData}
    (g : mg cname = some (.ref C)) (cls : ∃ nm q N bs bm sn sub ab col dd k0 k1 k2 k3 k5, K.lookup C = some (excClassObj nm q C N bs bm true sn sub ab col dd k0 k1 k2 k3 k5 "ValueError.__new__") ∧ PySem.HandSPX.refsVE bm = true)
    (sa : PySem.W.findIn K (.ref C) "__setattr__" = some (some (.builtin "object.__setattr__"))) (exC : PySem.W.subIn K (.ref C) (.type "BaseException") = some true) (tyC : PySem.W.typeIn K (.ref C) = some (.type "type")) (kC : PySem.W.keepIn K (.ref C) = true)
    (iC : PySem.W.findIn K (.ref C) "__init__" = some (some (.ref f))) (tI : PySem.W.typeIn K (.ref f) = some (.type "function"))
    (ga : PySem.W.findIn K (.ref C) "__getattribute__" = some (some (.builtin "BaseException.__getattribute__"))) (gg : PySem.W.findIn K (.ref C) "__getattr__" = some none) (hd : PySem.W.hasDictIn K C = true) (no : PySem.W.findIn K (.ref C) fld = some none)
    (ha : PySem.W.findIn K (.ref C) "__class__" = some (some (.builtin "object.__class__"))) (hn : PySem.W.specialIn K (.builtin "object.__class__") "__get__" = some (some (.builtin "getset_descriptor.__get__"))) (ht : PySem.W.takesIn K (.builtin "object.__class__") = some true)
    (hm : PySem.W.mroIn K C (.type "object") = some true)
    (lk : K.lookup f = some ⟨oc, od, .func (PySem.W.ksFn "__init__" qual params body scope .none kV doc pm an (.ref cda) ct cc), osl⟩)
    (hcd : PySem.W.codeIn K (.ref cda) qual = true) (hcode : K.lookup cda = some ⟨ccl, cdd, .fields cvs, ccs⟩) (hvs : cvs[2]? = some (.str file tf)) (hfile : ((P.main.file : Str) == file) = true)
    (hcell : K.lookup cc = some ⟨cl, cld, .cell (some (.ref C)), csl⟩)
    (hcl : PySem.W.clsIn K C = some cd) (hsub : PySem.W.mroIn K C (.ref C) = some true) (hal : PySem.W.alongIn K "__init__" ((cd.mro.dropWhile (· != .ref C)).drop 1) = some (some (.builtin "ValueError.__init__")))
    (hVE : PySem.W.subIn K (.ref C) (.type "ValueError") = some true) (hop : PySem.W.nsIn K cStatics "thirdparty.any" = some none) (hsup : mg "super" = none) (htop : (P.main.scope.names.lookup ("super" : Str)).isSome = false)
    (hA : params = xArgs p1 p2 nm) (hB : body = xBody msg fld nm j a0 a1 a2 a3 a4 a5 b1 b2 b3 b4) (hS : XScope scope nm) (hne : ¬ nm = ("self" : Str)) (hdb : (nm == ("__debug__" : Str)) = false) (hpos : (a2.endLine == a4.line) = true)
    (hbind : ∀ (s : Shared) (u v : Value), BindsTo s (PySem.W.ksFn "__init__" qual params body scope .none kV doc pm an (.ref cda) ct cc) ⟨[u, v], []⟩ [("self", u), (nm, v)]) :
    XTxt P K mg cname C f fld := by
  subst hA hB
  have T : OexC K C := ⟨cls, sa, exC, tyC, kC⟩
  exact ⟨g, T, iC, tI, fun w base => fn_excInit lk hcd hcode hvs hfile hcell hS.ss hS.sc hS.sl hS.sn hS.sk hS.nocell hS.sco hS.sgen hne hdb hcl hsub hal hVE hop hsup htop T no hpos hbind, ⟨ga, gg, exC, hd⟩, no, ⟨ga, gg, exC, hd, ha, hn, ht, hm⟩⟩
/-! more steps -/
section
variable {K : PySem.W.Frag} {σ : L2.St} {H : Hp} {Q : VK} {D : Ends} {te to ti : TE} {g : TG} {v : V}
theorem c_asgG (q : te σ H fun x H1 => g x σ H1 D.nx) : tAsg te g D σ H := q
theorem c_gSub {t : TSet} {R : L2.St → Hp → Prop} (q : to σ H fun o H1 => ti σ H1 fun i H2 => t o i v H2 fun H3 => R σ H3) : gSub to ti t v σ H R := q
theorem c_gName {i : Nat} {R : L2.St → Hp → Prop} (q : R (σ.set i (some v)) H) : gName i v σ H R := q
theorem c_setL {p : Addr} {xs : List V} {k : Int} {j : Nat} {R : Hp → Prop} (h : H p = some (.lst xs)) (hi : ixN xs.length k = some j) (q : R (upd H p (.lst (xs.set j v)))) : rSetL (.ref p) (.int k) v H R := ⟨p, xs, k, j, rfl, rfl, h, hi, q⟩
theorem c_xf {a : Addr} {cls : Value} {d : Option Addr} {C : Addr} {f : Str} (q : te σ H fun x H1 => x = .ref a ∧ cls = .ref C ∧ ∃ (dd : Addr) (fs : List (Str × V)) (v : V), d = some dd ∧ H1 dd = some (.xd fs) ∧ fs.lookup f = some v ∧ Q v H1) : tXf a cls d C f te σ H Q := q
/-- what stands apart from the addresses in S is as it was -/
def Kp (S : List Addr) (H H' : Hp) : Prop := ∀ b o, b ∉ S → H b = some o → H' b = some o
theorem Same.kp {S : List Addr} {H H' : Hp} (s : Same H H') : Kp S H H' := fun b o _ e => s b o e
theorem Kp.trans {S : List Addr} {H H1 H2 : Hp} (a : Kp S H H1) (b : Kp S H1 H2) : Kp S H H2 := fun c o n h => b c o n (a c o n h)
theorem Kp.upd {p : Addr} {o : HO} : Kp [p] H (upd H p o) := fun b u n e => by rw [upd_ne (by simpa using n)]; exact e
theorem atI_in {α : Type} {xs : List α} {n : Int} (h0 : 0 ≤ n) (h1 : n < xs.length) : ∃ v, v ∈ xs ∧ atI xs n = some v := by
  obtain ⟨j, rfl⟩ : ∃ j : Nat, n = j := ⟨n.toNat, by omega⟩
  have hj : j < xs.length := by omega
  exact ⟨xs[j], List.getElem_mem hj, atI_nat (by simp)⟩
theorem ixN_in {n : Nat} {k : Int} (h0 : 0 ≤ k) (h1 : k < n) : ixN n k = some k.toNat := by
  unfold ixN
  rw [if_pos h0, if_pos (by omega)]
end
theorem at0 {α : Type} {x0 : α} {xs : List α} : atI (x0 :: xs) 0 = some x0 := atI_nat (j := 0) rfl
theorem at1 {α : Type} {x0 x1 : α} {xs : List α} : atI (x0 :: x1 :: xs) 1 = some x1 := atI_nat (j := 1) rfl
theorem at2 {α : Type} {x0 x1 x2 : α} {xs : List α} : atI (x0 :: x1 :: x2 :: xs) 2 = some x2 := atI_nat (j := 2) rfl
theorem at3 {α : Type} {x0 x1 x2 x3 : α} {xs : List α} : atI (x0 :: x1 :: x2 :: x3 :: xs) 3 = some x3 := atI_nat (j := 3) rfl
theorem at4 {α : Type} {x0 x1 x2 x3 x4 : α} {xs : List α} : atI (x0 :: x1 :: x2 :: x3 :: x4 :: xs) 4 = some x4 := atI_nat (j := 4) rfl
theorem at5 {α : Type} {x0 x1 x2 x3 x4 x5 : α} {xs : List α} : atI (x0 :: x1 :: x2 :: x3 :: x4 :: x5 :: xs) 5 = some x5 := atI_nat (j := 5) rfl
theorem atm0 {α : Type} {x0 : α} : atI [x0] (-1) = some x0 := rfl
theorem atm1 {α : Type} {x0 x1 : α} : atI [x0, x1] (-1) = some x1 := rfl
theorem atm2 {α : Type} {x0 x1 x2 : α} : atI [x0, x1, x2] (-1) = some x2 := rfl
theorem c_ixIf {K : PySem.W.Frag} {b : Bool} {x : V} {H : Hp} {Q : VK} (h1 : b = true → rIx K x (.int 1) H Q) (h0 : b = false → rIx K x (.int 0) H Q) : rIx K x (.int (if b = true then 1 else 0)) H Q := by
  cases b with
  | true => exact h1 rfl
  | false => exact h0 rfl
theorem c_sz {xs : List V} {R : Prop} (h : xs.length ≤ 1000) (q : R) : xs.length ≤ sizeLine ∧ R := ⟨Nat.le_trans h (by rw [sizeLine_eq]; exact (by decide : 1000 ≤ 16777216)), q⟩
def rForR (g : TG) (tu : TS) (D : Ends) (σ : L2.St) : List V → Hp → Prop := fun vs H1 => ∃ j : Int, vs = [.int j] ∧ -(2 ^ 62) ≤ j ∧ j < 2 ^ 62 ∧ ∃ W : Nat → Nat → L2.St → Hp → Prop, (∃ m, W 0 m σ H1) ∧ ∀ i m σ H, W i m σ H →
  ((Itr 0 j.toNat).stop i H ∧ D.nx σ H) ∨ ((Itr 0 j.toNat).go i H ∧ ∃ N : L2.St → Hp → Prop, (∀ σ' H', N σ' H' → ∃ m', m' < m ∧ W (i + 1) m' σ' H') ∧ ∀ x H', (Itr 0 j.toNat).yld i H x H' → g x σ H' fun σ2 H2 => tu { D with nx := N, ct := N, bk := D.nx } σ2 H2)
theorem c_for1 {ta : TA} {tu : TS} (q : ta σ H (rForR g tu D σ)) : tFor (iRng1 ta) g tu D σ H := q
theorem forR_of {tu : TS} {n : Int} (b : -(2 ^ 62) ≤ n ∧ n < 2 ^ 62) (Pv : Nat → L2.St → Hp → Prop) (h0 : Pv 0 σ H)
    (hs : ∀ (i : Nat) σ' H', (i : Int) < n → Pv i σ' H' → g (.int (i : Int)) σ' H' fun σ2 H2 => tu { D with nx := Pv (i + 1), ct := Pv (i + 1), bk := D.nx } σ2 H2) (hd : ∀ σ' H', Pv n.toNat σ' H' → D.nx σ' H') : rForR g tu D σ [.int n] H :=
  ⟨n, rfl, b.1, b.2, for_range (lo := 0) (n := n.toNat) Pv h0 (fun i σ' H' hi p => by
    have e0 : (0 : Int) + (i : Int) = (i : Int) := Int.zero_add _
    rw [e0]
    exact hs i σ' H' (by omega) p) hd⟩
theorem roomS {j k : Nat} {A : Around} {x : Option Value} (r : Room k A) (h : j ≤ k) : RoomH j (A.mark x) := ⟨(r.mono h).dp, (r.mono h).un⟩
end Lb

/-! own base 5: `in` over an own class, floor division by any wide divisor, comprehension over range -/
namespace Lb
open L2 PySem PySem.Spec PyProof.Rows
section
variable {X : Cx} {CX : CXT} {C f : Addr} {k : Nat} {sp : Sp}
/-- x in o, o of the class at C -/
def rInOwn (C : Addr) (sp : Sp) (E : XK) : R2 := fun x y H Q => ∃ b dy gs, y = .ref b ∧ H b = some (.ins C dy gs) ∧ sp [.ref b, x] H (fun v H' => ∃ c, v = .bl c ∧ Q (.bl c) H') E
theorem op_inOwn {E : XK} (o : OwnDef X.K C "__contains__" f) (F : FnR X.prog X.w X.K X.mg X.base CX k f sp) (hr : Room k X.A) (hx : Passes CX X E) :
    OpR X (compareOp .In) (rInOwn C sp E) := by
  intro pins s σ H x y v u Q I rx ry h
  obtain ⟨b, dy, gs, rfl, hb, q⟩ := h
  obtain rfl : u = Value.ref b := ry
  obtain ⟨ox, od, J⟩ := inst_at I hb
  obtain ⟨m, fr⟩ := I.fr
  refine PySem.W.in_K fr I.ok.mod.kin J o.at_ o.fn ?_
  exact wpAny_mono (run_fnX (E := fun _ => E) (vs := [.ref b, x]) (us := [.ref b, v]) F hr (fun pins H s e s' => hx pins σ H s e s') I (.cons rfl (.cons rx .nil)) q) (fun r s' z => by
    obtain ⟨z, H', I', r', c, rfl, q⟩ := z
    cases r'
    exact wpAny_truthy_bool ⟨.bl c, H', I', rfl, q⟩) fun _ _ z => z
theorem op_addK {K : PySem.W.Frag} (h : X.K = K) : OpR X (binaryOp .Add) (rAddA K) := h ▸ op_addA
def CDivZ (_ j : Int) : Prop := j ≠ 0 ∧ j.natAbs.log2 < 9000
def rDivZ : R2 := rI CDivZ fun i j => .int (i.fdiv j)
theorem op_fdivZ : OpR X (binaryOp .FloorDiv) rDivZ := opI fun _ _ _ _ _ _ _ hc q => floordiv_int hc.1 q (.inl (PyProof.noPylong_of_log2 hc.2))
def rModZ : R2 := rI (fun _ j => j ≠ 0) fun i j => .int (i.fmod j)
theorem op_modZ : OpR X (binaryOp .Mod) rModZ := op_modN
end
section
variable {K : PySem.W.Frag} {σ : L2.St} {H : Hp} {Q : VK} {n m : Int}
theorem c_divZ (h : CDivZ n m) (q : Q (.int (n.fdiv m)) H) : rDivZ (.int n) (.int m) H Q := ⟨n, m, rfl, rfl, h, q⟩
theorem c_modZ (h : m ≠ 0) (q : Q (.int (n.fmod m)) H) : rModZ (.int n) (.int m) H Q := ⟨n, m, rfl, rfl, h, q⟩
theorem divZ_of {b : Nat} (h : m ≠ 0) (hb : m.natAbs < 2 ^ b) (h0 : 0 < b) (h9 : b ≤ 9000) : CDivZ n m := ⟨h, Nat.lt_of_lt_of_le (PySem.Flt.log2_lt_of h0 hb) h9⟩
theorem c_inOwn {C b dy : Addr} {gs : List (Str × V)} {sp : Sp} {E : XK} {x : V} (h : H b = some (.ins C dy gs)) (q : sp [.ref b, x] H (fun v H' => ∃ c, v = .bl c ∧ Q (.bl c) H') E) : rInOwn C sp E x (.ref b) H Q := ⟨b, dy, gs, rfl, h, q⟩
theorem c_bm {T : String} {r : V → List V → Hp → VK → Prop} {to : TE} {t : TA} (q : to σ H fun x H1 => tyV K T x H1 ∧ t σ H1 fun xs H2 => r x xs H2 Q) : tBM K T r to t σ H Q := q
theorem c_app1 {l : Addr} {xs : List V} {R : Prop} (h : H l = some (.lst xs)) (q : R) : tyV K "list" (.ref l) H ∧ R := ⟨Or.inl ⟨rfl, xs, SqL.of h⟩, q⟩
theorem c_app2 {l : Addr} {xs : List V} {v : V} (h : H l = some (.lst xs)) (hz : xs.length < 100000) (q : Q .non (upd H l (.lst (xs ++ [v])))) : rAppend (.ref l) [v] H Q := ⟨l, xs, v, rfl, rfl, h, Nat.lt_of_lt_of_le hz (by decide), q⟩
theorem c_meth2 {C a dx : Addr} {fs : List (Str × V)} {m : Str} {R : Prop} (ha : H a = some (.ins C dx fs)) (hm : fs.lookup m = none) (q : R) : ∃ a' dx fs, V.ref a = .ref a' ∧ H a' = some (.ins C dx fs) ∧ fs.lookup m = none ∧ R := ⟨a, dx, fs, rfl, ha, hm, q⟩
/-- [te for g in range(..)] -/
def rLcR (g : TG) (tt : TT) (te : TE) (vs : List Nat) (σ : L2.St) (Q : VK) : List V → Hp → Prop := fun us H1 => ∃ j : Int, us = [.int j] ∧ -(2 ^ 62) ≤ j ∧ j < 2 ^ 62 ∧ ∀ D, H1 D = none → ∃ W : Nat → Nat → Hp → Prop, (∃ m, W 0 m (upd H1 D (.lst []))) ∧ ∀ i m H, W i m H →
      ((Itr 0 j.toNat).stop i H ∧ Q (.ref D) H) ∨ ((Itr 0 j.toNat).go i H ∧ ∃ Nx : Hp → Prop, (∀ H', Nx H' → ∃ m', m' < m ∧ W (i + 1) m' H') ∧ ∀ x H', (Itr 0 j.toNat).yld i H x H' → g x (wipe σ vs) H' fun σ2 H2 => wipe σ2 vs = wipe σ vs ∧ tt σ2 H2 fun b H3 =>
        if b = true then te σ2 H3 fun y H4 => ∃ acc, H4 D = some (.lst acc) ∧ acc.length < sizeLine ∧ Nx (upd H4 D (.lst (acc ++ [y]))) else Nx H3)
theorem c_lcR {ta : TA} {g : TG} {tt : TT} {te : TE} {vs : List Nat} (q : ta σ H (rLcR g tt te vs σ Q)) : tLc (iRng1 ta) g tt te vs σ H Q := q
theorem lcR_of {g : TG} {tt : TT} {te : TE} {vs : List Nat} (b : -(2 ^ 62) ≤ n ∧ n < 2 ^ 62) (h : ∀ D, H D = none → ∃ Pv : Nat → Hp → Prop, Pv 0 (upd H D (.lst [])) ∧
    (∀ (i : Nat) H', (i : Int) < n → Pv i H' → g (.int (i : Int)) (wipe σ vs) H' fun σ2 H2 => wipe σ2 vs = wipe σ vs ∧ tt σ2 H2 fun b H3 =>
      if b = true then te σ2 H3 fun y H4 => ∃ acc, H4 D = some (.lst acc) ∧ acc.length < sizeLine ∧ Pv (i + 1) (upd H4 D (.lst (acc ++ [y]))) else Pv (i + 1) H3) ∧
    (∀ H', Pv n.toNat H' → Q (.ref D) H')) : rLcR g tt te vs σ Q [.int n] H :=
  ⟨n, rfl, b.1, b.2, fun D hD => by
    obtain ⟨Pv, h0, hs, hd⟩ := h D hD
    exact lc_range (lo := 0) (n := n.toNat) Pv h0 (fun i H' hi p => by
      have e0 : (0 : Int) + (i : Int) = (i : Int) := Int.zero_add _
      rw [e0]
      exact hs i H' (by omega) p) hd⟩
/-- a comprehension whose item changes nothing: f i at turn i -/
theorem lcR_pure {g : TG} {te : TE} {vs : List Nat} (f : Nat → V) (b : 0 ≤ n ∧ n ≤ 10000)
    (hs : ∀ (i : Nat) H' (R : VK), (i : Int) < n → (∀ p o, H p = some o → H' p = some o) → R (f i) H' → g (.int (i : Int)) (wipe σ vs) H' fun σ2 H2 => wipe σ2 vs = wipe σ vs ∧ te σ2 H2 R)
    (hd : ∀ D, H D = none → Q (.ref D) (upd H D (.lst ((List.range n.toNat).map f)))) : rLcR g tYes te vs σ Q [.int n] H := by
  refine lcR_of (by omega) fun D hD => ⟨fun i H' => H' = upd H D (.lst ((List.range i).map f)), rfl, fun i H' hi hp => ?_, fun H' hp => by subst hp; exact hd D hD⟩
  subst hp
  have := hs i (upd H D (.lst ((List.range i).map f))) (fun y H4 => ∃ acc, H4 D = some (.lst acc) ∧ acc.length < sizeLine ∧ upd H4 D (.lst (acc ++ [y])) = upd H D (.lst ((List.range (i + 1)).map f))) hi (Same.new hD) ⟨_, upd_same, by simp only [List.length_map, List.length_range]; have := sizeLine_eq; omega, by
    rw [List.range_succ, List.map_append]
    funext a
    by_cases z : a = D
    · subst z; rw [upd_same, upd_same]; rfl
    · rw [upd_ne z, upd_ne z, upd_ne z]⟩
  exact this
end
end Lb

/-! own base 6: loops over lists, cuts behind several statements, what stands apart from given addresses -/
namespace Lb
open L2 PySem PySem.Spec PyProof.Rows
section
variable {K : PySem.W.Frag} {σ : L2.St} {H H' H1 : Hp} {Q : VK} {D : Ends} {g : TG} {tu t1 t2 t3 t4 t5 : TS} {p q r : Addr} {o : HO} {S : List Addr}
theorem ni0 : p ∉ ([] : List Addr) := by simp
theorem ni_cons (h : p ≠ q) (h' : p ∉ S) : p ∉ q :: S := by simp only [List.mem_cons, not_or]; exact ⟨h, h'⟩
theorem kp_refl : Kp S H H := fun _ _ _ e => e
theorem kp_in (h : Kp S H H') (m : p ∈ S) : Kp S H (upd H' p o) := fun b u n e => by
  have hb : b ≠ p := fun z => n (z ▸ m)
  rw [upd_ne hb]; exact h b u n e
theorem kp_new (h : Kp S H H') (m : H' p = none) : Kp S H (upd H' p o) := fun b u n e => by
  have e' := h b u n e
  rw [upd_ne (ne_of_none e' m)]; exact e'
theorem kp_same (h : Kp S H H1) (s : Same H1 H') : Kp S H H' := fun b u n e => s b u (h b u n e)
theorem kp_kp {S' : List Addr} (h : Kp S H H1) (s : Kp S' H1 H') (m : ∀ x ∈ S', x ∈ S) : Kp S H H' := fun b u n e => s b u (fun z => n (m b z)) (h b u n e)
theorem Same.sqT {K : PySem.W.Frag} {H H' : Hp} {a : Addr} {xs : List V} (e : Same H H') (h : SqT K H a xs) : SqT K H' a xs := by
  rcases h with (h | ⟨o, h⟩) | h
  · exact .inl (.inl (e _ _ h))
  · exact .inl (.inr ⟨o, e _ _ h⟩)
  · exact .inr h
mutual
theorem dp_same {K : PySem.W.Frag} {H H' : Hp} (s : Same H H') : ∀ {v : V} {d : PyData}, Dp K H v d → Dp K H' v d
  | _, _, .non => .non
  | _, _, .bl b => .bl b
  | _, _, .int i => .int i
  | _, _, .str x => .str x
  | _, _, .lst h a => .lst (s.seq h) (dpa_same s a)
  | _, _, .tup h a => .tup (Same.sqT s h) (dpa_same s a)
theorem dpa_same {K : PySem.W.Frag} {H H' : Hp} (s : Same H H') : ∀ {vs : List V} {ds : List PyData}, DpAll K H vs ds → DpAll K H' vs ds
  | _, _, .nil => .nil
  | _, _, .cons h a => .cons (dp_same s h) (dpa_same s a)
end
theorem dpInts {K : PySem.W.Frag} {H : Hp} {ns : List Int} : DpAll K H (ns.map V.int) (ns.map PyData.int) := by
  induction ns with
  | nil => exact .nil
  | cons n ns ih => exact .cons (.int n) ih
theorem layInts {ns : List Int} : PyData.canLayAll0 (ns.map PyData.int) = true ∧ PyData.depthAll (ns.map PyData.int) = 0 := by
  induction ns with
  | nil => exact ⟨rfl, rfl⟩
  | cons n ns ih => simp only [List.map_cons, PyData.canLayAll0, PyData.canLay0, PyData.depthAll, PyData.depth, ih.1, ih.2, Bool.and_self, Nat.max_self, and_self]
theorem shInts {ns : List Int} : SeqAt.shaped (.list (ns.map PyData.int)) = true ∧ SeqAt.shaped (.tuple (ns.map PyData.int)) = true := by
  simp only [SeqAt.shaped, PyData.canLay0, PyData.depth, layInts.1, layInts.2]
  decide
mutual
theorem eqv_self : ∀ {K : PySem.W.Frag} {H : Hp} {v : V} {d : PyData}, Dp K H v d → PyData.eqv d d = true
  | _, _, _, _, .non => rfl
  | _, _, _, _, .bl b => by simp [PyData.eqv]
  | _, _, _, _, .int i => by simp [PyData.eqv]
  | _, _, _, _, .str x => by simp [PyData.eqv]
  | _, _, _, _, .lst h a => by simp only [PyData.eqv]; exact eqvAll_self a
  | _, _, _, _, .tup h a => by simp only [PyData.eqv]; exact eqvAll_self a
theorem eqvAll_self : ∀ {K : PySem.W.Frag} {H : Hp} {vs : List V} {ds : List PyData}, DpAll K H vs ds → PyData.eqvAll ds ds = true
  | _, _, _, _, .nil => rfl
  | _, _, _, _, .cons h a => by simp only [PyData.eqvAll, eqv_self h, eqvAll_self a, Bool.and_self]
end
/-- a fresh address at an old heap stays out of what was there -/
theorem fresh_kp (s : Kp S H H') (hp : H' p = none) (ns : p ∉ S) : H p = none := by
  cases e : H p with
  | none => rfl
  | some o => rw [s p o ns e] at hp; cases hp
def rForL (K : PySem.W.Frag) (g : TG) (tu : TS) (D : Ends) (σ : L2.St) (a : Addr) (H : Hp) : Prop := ∃ W : Nat → Nat → L2.St → Hp → Prop, (∃ m, W 0 m σ H) ∧ ∀ i m σ H, W i m σ H →
  ((Itl K a).stop i H ∧ D.nx σ H) ∨ ((Itl K a).go i H ∧ ∃ N : L2.St → Hp → Prop, (∀ σ' H', N σ' H' → ∃ m', m' < m ∧ W (i + 1) m' σ' H') ∧ ∀ x H', (Itl K a).yld i H x H' → g x σ H' fun σ2 H2 => tu { D with nx := N, ct := N, bk := D.nx } σ2 H2)
theorem c_forL {ta : TE} (q : ta σ H fun x H1 => ∃ a, x = .ref a ∧ (∃ xs, SqL K H1 a xs) ∧ rForL K g tu D σ a H1) : tFor (iList K ta) g tu D σ H := q
theorem forL_of {a : Addr} {xs : List V} (Pv : Nat → L2.St → Hp → Prop) (h0 : Pv 0 σ H) (hl : ∀ i σ H, i ≤ xs.length → Pv i σ H → SqL K H a xs)
    (hs : ∀ i x σ H, xs[i]? = some x → Pv i σ H → g x σ H fun σ2 H2 => tu { D with nx := Pv (i + 1), ct := Pv (i + 1), bk := D.nx } σ2 H2) (hd : ∀ σ H, Pv xs.length σ H → D.nx σ H) : rForL K g tu D σ a H :=
  for_list Pv h0 hl hs hd
def rForT (K : PySem.W.Frag) (g : TG) (tu : TS) (D : Ends) (σ : L2.St) (a : Addr) (H : Hp) : Prop := ∃ W : Nat → Nat → L2.St → Hp → Prop, (∃ m, W 0 m σ H) ∧ ∀ i m σ H, W i m σ H →
  ((Itt K a).stop i H ∧ D.nx σ H) ∨ ((Itt K a).go i H ∧ ∃ N : L2.St → Hp → Prop, (∀ σ' H', N σ' H' → ∃ m', m' < m ∧ W (i + 1) m' σ' H') ∧ ∀ x H', (Itt K a).yld i H x H' → g x σ H' fun σ2 H2 => tu { D with nx := N, ct := N, bk := D.nx } σ2 H2)
theorem c_forT {ta : TE} (q : ta σ H fun x H1 => ∃ a, x = .ref a ∧ (∃ xs, SqT K H1 a xs) ∧ rForT K g tu D σ a H1) : tFor (iTup K ta) g tu D σ H := q
theorem forT_of {a : Addr} {xs : List V} (Pv : Nat → L2.St → Hp → Prop) (h0 : Pv 0 σ H) (hl : ∀ i σ H, i ≤ xs.length → Pv i σ H → SqT K H a xs)
    (hs : ∀ i x σ H, xs[i]? = some x → Pv i σ H → g x σ H fun σ2 H2 => tu { D with nx := Pv (i + 1), ct := Pv (i + 1), bk := D.nx } σ2 H2) (hd : ∀ σ H, Pv xs.length σ H → D.nx σ H) : rForT K g tu D σ a H :=
  for_tup Pv h0 hl hs hd
/-- cuts behind two, three, four statements -/
theorem c_cut2 (P : L2.St → Hp → Prop) (h2 : ∀ σ H, P σ H → t3 D σ H) (h1 : ∀ N : L2.St → Hp → Prop, (∀ σ H, P σ H → N σ H) → tSeq t1 t2 { D with nx := N } σ H) : tSeq t1 (tSeq t2 t3) D σ H := h1 (t3 D) h2
theorem c_cut3 (P : L2.St → Hp → Prop) (h2 : ∀ σ H, P σ H → t4 D σ H) (h1 : ∀ N : L2.St → Hp → Prop, (∀ σ H, P σ H → N σ H) → tSeq t1 (tSeq t2 t3) { D with nx := N } σ H) : tSeq t1 (tSeq t2 (tSeq t3 t4)) D σ H := h1 (t4 D) h2
theorem c_cut4 (P : L2.St → Hp → Prop) (h2 : ∀ σ H, P σ H → t5 D σ H) (h1 : ∀ N : L2.St → Hp → Prop, (∀ σ H, P σ H → N σ H) → tSeq t1 (tSeq t2 (tSeq t3 t4)) { D with nx := N } σ H) : tSeq t1 (tSeq t2 (tSeq t3 (tSeq t4 t5))) D σ H := h1 (t5 D) h2
theorem atI_ints {ns : List Int} {n : Int} (h0 : 0 ≤ n) (h1 : n < ns.length) : ∃ z, z ∈ ns ∧ atI (ns.map V.int) n = some (.int z) := by
  obtain ⟨j, rfl⟩ : ∃ j : Nat, n = j := ⟨n.toNat, by omega⟩
  have hj : j < ns.length := by omega
  exact ⟨ns[j], List.getElem_mem hj, atI_nat (by simp)⟩
theorem sqKp {K : PySem.W.Frag} {S : List Addr} {H H' : Hp} {a : Addr} {xs : List V} (h : SqL K H a xs) (n : ∀ b ∈ S, H b = none) (s : Kp S H H') : SqL K H' a xs := by
  have q : ∀ o, H a = some o → a ∉ S := fun o e m => by rw [n _ m] at e; cases e
  rcases h with (h | ⟨o, h⟩) | h
  · exact .inl (.inl (s _ _ (q _ h) h))
  · exact .inl (.inr ⟨o, s _ _ (q _ h) h⟩)
  · exact .inr h
theorem Kp.add {S : List Addr} {p : Addr} {H H' : Hp} (s : Kp S H H') : Kp (p :: S) H H' := fun b o n e => s b o (fun m => n (.tail _ m)) e
theorem Kp.into {S : List Addr} {p : Addr} {H H' : Hp} (m : p ∈ S) (s : Kp [p] H H') : Kp S H H' := fun b o n e => s b o (fun q => n (by rw [List.mem_singleton] at q; rw [q]; exact m)) e
end
end Lb

/-! own base 7: errors of own classes without own __init__; isinstance and fields of a caught error whatever its class -/
namespace Lb
open L2 PySem PySem.Spec PyProof.Rows
/-- an own error class without __init__ -/
structure YTxt (K : PySem.W.Frag) (mg : Str → Option Value) (nm : Str) (C : Addr) : Prop where
  g : mg nm = some (.ref C)
  q : PySem.W.excIn K C [.type "ValueError", .type "Exception", .type "BaseException", .type "object"] "ValueError.__new__" = true
  kC : PySem.W.keepIn K (.ref C) = true
  tyC : PySem.W.typeIn K (.ref C) = some (.type "type")
  ec : ExcC K C
section
variable {X : Cx} {nm m : Str} {C : Addr} {W : WX} {e : Expr} {te : TE} {p p2 pos pos' : Pos} {j : Nat} {D : Ends} {σ : L2.St} {H : Hp}
/-- raise X('..') -/
def tRaiseY (C : Addr) (W : WX) : TS := fun _ σ H => W (.ref C) none σ H
theorem ps_raiseY (T : YTxt X.K X.mg nm C) (hc : X.calm = true) (tk : Takes X W) (hg : Gl X nm) (hdb : (nm == ("__debug__" : Str)) = false := by decide) :
    PS X (.Raise (some (.Call (.Name nm p) [.Constant (.str m) j p2] [] pos)) none pos') (tRaiseY C W) :=
  ps_raise hc tk (pmk_own PySem.F.excBase_ValueError T.q T.g T.kC (raises_own T.ec.hs T.tyC) hg hdb)
theorem c_raiseY (q : W (.ref C) none σ H) : tRaiseY C W D σ H := q
end
/-- isinstance of the caught error at a, with or without a dict -/
def rIsY (K : PySem.W.Frag) (cls : Value) (d : Option Addr) (a : Addr) : List V → Hp → VK → Prop := fun xs H Q => ∃ (c : V) (cv : Value) (b : Bool) (D : Addr), xs = [.ref a, c] ∧ ExcC K D ∧ cls = .ref D ∧ (d = none ∨ ∃ dd fs, d = some dd ∧ H dd = some (.xd fs)) ∧ ClsV c cv ∧ PySem.W.kitOne K (.ref D) cv = some b ∧ Q (.bl b) H
theorem call_isY {X : Cx} {a : Addr} {cls : Value} {d : Option Addr} {oe : Obj} {pn : List (Addr × Obj)} (hz : Zc cls d oe) (hf : ∃ vs, oe.data = .fields vs) : CallR (X.suite a ((a, oe) :: pn)) (.builtin "isinstance") (rIsY X.K cls d a) := by
  intro pins s σ H xs us Q I r h
  obtain ⟨c, cv, b, D, rfl, C, rfl, hd, hcv, e, q⟩ := h
  rcases hd with rfl | ⟨dd, fs, rfl, hd⟩
  · exact call_isE C hz hf pins s σ H _ us Q I r ⟨c, cv, b, rfl, fun u hu => hcv.eq hu, e, q⟩
  · exact call_isX C hz hf pins s σ H _ us Q I r ⟨c, cv, b, dd, fs, rfl, rfl, rfl, hd, hcv, e, q⟩
def tXfY (K : PySem.W.Frag) (a : Addr) (cls : Value) (d : Option Addr) (f : Str) (te : TE) : TE := fun σ H Q => te σ H fun x H1 => ∃ C, XfC K C ∧ PySem.W.findIn K (.ref C) f = some none ∧ x = .ref a ∧ cls = .ref C ∧ ∃ (dd : Addr) (fs : List (Str × V)) (v : V), d = some dd ∧ H1 dd = some (.xd fs) ∧ fs.lookup f = some v ∧ Q v H1
theorem pe_xfY {X : Cx} {a : Addr} {oe : Obj} {cls : Value} {d : Option Addr} {pn : List (Addr × Obj)} {e : Expr} {te : TE} {pos : Pos} {n : Str}
    (hz : Zc cls d oe) (hf : ∃ vs, oe.data = .fields vs) (he : PE (X.suite a ((a, oe) :: pn)) e te) (hb : attributeBase e n X.env (eval e X.env) = eval e X.env := by rfl) :
    PE (X.suite a ((a, oe) :: pn)) (.Attribute e n pos) (tXfY X.K a cls d n te) := by
  refine ⟨fun pins s σ H Q I h => ?_⟩
  refine attr_of hb (thn (he.run pins s σ H _ I h) fun u s1 hh => ?_)
  obtain ⟨x, H1, I1, rx, C, T, hno, ex, ec, dd, fs, v, ed, ea, l, q⟩ := hh
  subst ex
  obtain rfl : u = Value.ref a := rx
  subst ec
  subst ed
  obtain ⟨ha, _⟩ := I1.pin (a, oe) (List.mem_append_left _ List.mem_cons_self)
  obtain ⟨vs, hd⟩ := hf
  have hx : ObjOk X.prog X.w H1 s1.heap dd (.xd fs) := I1.hok dd _ ea
  obtain ⟨mA, hns, hr⟩ := hx
  obtain ⟨od, ho, hl⟩ := lookIn_ns hns
  obtain ⟨u, hu, ru⟩ := RelO.some_of (v := v) (o := mA n) (by rw [← l]; exact hr n)
  have J : PySem.W.InstAt s1.heap a oe C (some od) := ⟨ha, hz.1, by unfold PySem.W.notCls; rw [hd] <;> rfl, by rw [hz.2]; exact ho⟩
  exact HandSPX.exc_get I1.kIn J T.ga T.gg T.exC (PySem.W.findObj_own T.hdC hno rfl (by rw [hl, hu])) (handed_of ru) ⟨v, H1, I1.tok _, ru, q⟩
theorem c_xfY {K : PySem.W.Frag} {a : Addr} {cls : Value} {d : Option Addr} {f : Str} {te : TE} {σ : L2.St} {H : Hp} {Q : VK} (q : te σ H fun x H1 => ∃ C, XfC K C ∧ PySem.W.findIn K (.ref C) f = some none ∧ x = .ref a ∧ cls = .ref C ∧ ∃ (dd : Addr) (fs : List (Str × V)) (v : V), d = some dd ∧ H1 dd = some (.xd fs) ∧ fs.lookup f = some v ∧ Q v H1) : tXfY K a cls d f te σ H Q := q
end Lb

/-! own base 8: `not in` of own classes, while, targets that are tuples, max and min of two -/
namespace Lb
open L2 PySem PySem.Spec PyProof.Rows
section
variable {X : Cx} {CX : CXT} {C f : Addr} {k : Nat} {sp : Sp}
/-- x not in o, o of the class at C -/
def rNinOwn (C : Addr) (sp : Sp) (E : XK) : R2 := fun x y H Q => ∃ b dy gs, y = .ref b ∧ H b = some (.ins C dy gs) ∧ sp [.ref b, x] H (fun v H' => ∃ c, v = .bl c ∧ Q (.bl (!c)) H') E
theorem op_ninOwn {E : XK} (o : OwnDef X.K C "__contains__" f) (F : FnR X.prog X.w X.K X.mg X.base CX k f sp) (hr : Room k X.A) (hx : Passes CX X E) :
    OpR X (compareOp .NotIn) (rNinOwn C sp E) := by
  intro pins s σ H x y v u Q I rx ry h
  obtain ⟨b, dy, gs, rfl, hb, q⟩ := h
  obtain rfl : u = Value.ref b := ry
  obtain ⟨ox, od, J⟩ := inst_at I hb
  obtain ⟨m, fr⟩ := I.fr
  refine PySem.W.notIn_K fr I.ok.mod.kin J o.at_ o.fn ?_
  exact wpAny_mono (run_fnX (E := fun _ => E) (vs := [.ref b, x]) (us := [.ref b, v]) F hr (fun pins H s e s' => hx pins σ H s e s') I (.cons rfl (.cons rx .nil)) q) (fun r s' z => by
    obtain ⟨z, H', I', r', c, rfl, q⟩ := z
    cases r'
    exact wpAny_truthy_bool ⟨.bl (!c), H', I', rfl, q⟩) fun _ _ z => z
end
section
variable {K : PySem.W.Frag} {σ : L2.St} {H : Hp} {Q : VK} {D : Ends} {x y : V} {n m : Int} {tb : TS} {c : TT}
theorem c_ninOwn {C b dy : Addr} {gs : List (Str × V)} {sp : Sp} {E : XK} {x : V} (h : H b = some (.ins C dy gs)) (q : sp [.ref b, x] H (fun v H' => ∃ c, v = .bl c ∧ Q (.bl (!c)) H') E) : rNinOwn C sp E x (.ref b) H Q := ⟨b, dy, gs, rfl, h, q⟩
theorem c_eqV (h : scal x y = true) (q : Q (.bl (decide (x = y))) H) : rEqA K x y H Q := .inl ⟨h, q⟩
theorem c_neV (h : scal x y = true) (q : Q (.bl (!decide (x = y))) H) : rNeA K x y H Q := .inl ⟨h, q⟩
theorem c_eqD {dx dy : PyData} {b : Bool} (h1 : Dp K H x dx) (h2 : Dp K H y dy) (s1 : SeqAt.shaped dx = true) (s2 : SeqAt.shaped dy = true) (e : PyData.eqv dx dy = b) (q : Q (.bl b) H) : rEqA K x y H Q := .inr ⟨dx, dy, h1, h2, s1, s2, by rw [e]; exact q⟩
theorem c_neD {dx dy : PyData} {b : Bool} (h1 : Dp K H x dx) (h2 : Dp K H y dy) (s1 : SeqAt.shaped dx = true) (s2 : SeqAt.shaped dy = true) (e : PyData.eqv dx dy = b) (q : Q (.bl (!b)) H) : rNeA K x y H Q := .inr ⟨dx, dy, h1, h2, s1, s2, by rw [e]; exact q⟩
theorem kp_own {S : List Addr} {H H1 H2 H3 : Hp} {p : Addr} (h : Kp S H H1) (s : Same H1 H2) (n : H1 p = none) (k : Kp [p] H2 H3) : Kp S H H3 := fun b u nb e => by
  have e1 := h b u nb e
  exact k b u (by simpa using ne_of_none e1 n) (s b u e1)
/-- a turn of a while -/
def tWB (tb : TS) (D : Ends) (Pv : Nat → L2.St → Hp → Prop) (m : Nat) : L2.St → Hp → Prop := fun σ H => ∃ N : L2.St → Hp → Prop, (∀ σ' H', N σ' H' → ∃ m', m' < m ∧ Pv m' σ' H') ∧ tb { D with nx := N, ct := N, bk := D.nx } σ H
theorem c_wb {Pv : Nat → L2.St → Hp → Prop} {m : Nat} (q : ∀ N : L2.St → Hp → Prop, (∀ σ' H', (∃ m', m' < m ∧ Pv m' σ' H') → N σ' H') → tb { D with nx := N, ct := N, bk := D.nx } σ H) : tWB tb D Pv m σ H :=
  ⟨fun σ' H' => ∃ m', m' < m ∧ Pv m' σ' H', fun _ _ h => h, q _ fun _ _ h => h⟩
theorem c_while (Pv : Nat → L2.St → Hp → Prop) (h0 : ∃ m, Pv m σ H) (hs : ∀ m σ H, Pv m σ H → c σ H fun b H1 => if b = true then tWB tb D Pv m σ H1 else D.nx σ H1) : tWhile c tb D σ H := ⟨Pv, h0, hs⟩
theorem c_gTup {a : Addr} {xs : List V} {k : Nat} {t : TGs} {R : L2.St → Hp → Prop} (h : SqT K H a xs) (hl : xs.length = k) (q : t xs σ H R) : gTup K k t (.ref a) σ H R := ⟨a, xs, rfl, h, hl, q⟩
theorem c_gCons {t : TG} {u : TGs} {v : V} {r : List V} {R : L2.St → Hp → Prop} (q : t v σ H fun σ' H' => u r σ' H' R) : gCons t u (v :: r) σ H R := ⟨v, r, rfl, q⟩
theorem c_gNil {R : L2.St → Hp → Prop} (q : R σ H) : gNil [] σ H R := ⟨rfl, q⟩
theorem c_max2 {a : Addr} (h : SqL K H a [.int n, .int m]) (q : Q (.int (max n m)) H) : rMax K [.ref a] H Q := ⟨a, [n, m], rfl, h, by simp, fun k hk hm => by
  have : k = max n m := by
    have h1 := hm n (by simp)
    have h2 := hm m (by simp)
    simp only [List.mem_cons, List.not_mem_nil, or_false] at hk
    omega
  rw [this]; exact q⟩
theorem c_min2 {a : Addr} (h : SqL K H a [.int n, .int m]) (q : Q (.int (min n m)) H) : rMin K [.ref a] H Q := ⟨a, [n, m], rfl, h, by simp, fun k hk hm => by
  have : k = min n m := by
    have h1 := hm n (by simp)
    have h2 := hm m (by simp)
    simp only [List.mem_cons, List.not_mem_nil, or_false] at hk
    omega
  rw [this]; exact q⟩
/-- slices of lists, tuples, texts -/
def rSlA (K : PySem.W.Frag) : V → Option Int → Option Int → Hp → VK → Prop := fun x lo hi H Q => rSlL K x lo hi H Q ∨ rSlT K x lo hi H Q ∨ rSlS x lo hi H Q
theorem sl_any {X : Cx} : SlR X (rSlA X.K) := sl_list.or (sl_tup.or sl_str)
theorem c_sl {r : V → Option Int → Option Int → Hp → VK → Prop} {te : TE} {tl th : TO} (q : te σ H fun x H1 => tl σ H1 fun l H2 => th σ H2 fun u H3 => r x l u H3 Q) : tSl r te tl th σ H Q := q
theorem c_noPart {R : Option Int → Hp → Prop} (q : R none H) : tNoPart σ H R := q
theorem c_part {te : TE} {R : Option Int → Hp → Prop} (q : te σ H fun x H1 => ∃ i, x = .int i ∧ R (some i) H1) : tPart te σ H R := q
theorem c_int {R : Int → Prop} (q : R n) : ∃ i, V.int n = .int i ∧ R i := ⟨n, rfl, q⟩
theorem c_slL {a : Addr} {xs : List V} {lo hi : Option Int} (h : SqL K H a xs) (q : ∀ p, H p = none → Q (.ref p) (upd H p (.lst (cutV xs lo hi)))) : rSlA K (.ref a) lo hi H Q := .inl ⟨a, xs, rfl, h, q⟩
theorem c_cat {l b : Addr} {xs zs : List V} (h1 : H l = some (.lst xs)) (h2 : H b = some (.lst zs)) (hz : xs.length + zs.length ≤ 100000) (q : ∀ p, H p = none → Q (.ref p) (upd H p (.lst (xs ++ zs)))) : rAddA K (.ref l) (.ref b) H Q := .inr (.inr (.inl ⟨l, b, xs, zs, rfl, rfl, h1, h2, Nat.le_trans hz (by rw [sizeLine_eq]; exact (by decide : 100000 ≤ 16777216)), q⟩))
theorem c_ext2 {l b : Addr} {xs zs : List V} (h1 : H l = some (.lst xs)) (h2 : H b = some (.lst zs)) (hz : xs.length + zs.length ≤ 100000) (q : Q .non (upd H l (.lst (xs ++ zs)))) : rExtend (.ref l) [.ref b] H Q := ⟨l, b, xs, zs, rfl, rfl, h1, h2, Nat.le_trans hz (by rw [sizeLine_eq]; exact (by decide : 100000 ≤ 16777216)), q⟩
theorem c_inL {a : Addr} {xs : List V} {b : Bool} (h : SqL K H a xs) (fx : flatV x = true) (fs : xs.all flatV = true) (e : inV x xs = b) (q : Q (.bl b) H) : rIn K false x (.ref a) H Q := ⟨a, xs, rfl, .inl h, fx, fs, by rw [if_neg (by simp), e]; exact q⟩
theorem c_ninL {a : Addr} {xs : List V} {b : Bool} (h : SqL K H a xs) (fx : flatV x = true) (fs : xs.all flatV = true) (e : inV x xs = b) (q : Q (.bl (!b)) H) : rIn K true x (.ref a) H Q := ⟨a, xs, rfl, .inl h, fx, fs, by rw [if_pos rfl, e]; exact q⟩
/-- [te for g in xs if tt] -/
def rLcL (K : PySem.W.Frag) (g : TG) (tt : TT) (te : TE) (vs : List Nat) (σ : L2.St) (Q : VK) (a : Addr) (H1 : Hp) : Prop := ∀ D, H1 D = none → ∃ W : Nat → Nat → Hp → Prop, (∃ m, W 0 m (upd H1 D (.lst []))) ∧ ∀ i m H, W i m H →
  ((Itl K a).stop i H ∧ Q (.ref D) H) ∨ ((Itl K a).go i H ∧ ∃ Nx : Hp → Prop, (∀ H', Nx H' → ∃ m', m' < m ∧ W (i + 1) m' H') ∧ ∀ x H', (Itl K a).yld i H x H' → g x (wipe σ vs) H' fun σ2 H2 => wipe σ2 vs = wipe σ vs ∧ tt σ2 H2 fun b H3 =>
    if b = true then te σ2 H3 fun y H4 => ∃ acc, H4 D = some (.lst acc) ∧ acc.length < sizeLine ∧ Nx (upd H4 D (.lst (acc ++ [y]))) else Nx H3)
theorem c_lcL {ta : TE} {g : TG} {tt : TT} {te : TE} {vs : List Nat} (q : ta σ H fun x H1 => ∃ a, x = .ref a ∧ (∃ xs, SqL K H1 a xs) ∧ rLcL K g tt te vs σ Q a H1) : tLc (iList K ta) g tt te vs σ H Q := q
theorem lcL_of {a : Addr} {xs : List V} {g : TG} {tt : TT} {te : TE} {vs : List Nat} (h : ∀ D, H D = none → ∃ Pv : Nat → Hp → Prop, Pv 0 (upd H D (.lst [])) ∧ (∀ i H, i ≤ xs.length → Pv i H → SqL K H a xs) ∧
    (∀ i x H', xs[i]? = some x → Pv i H' → g x (wipe σ vs) H' fun σ2 H2 => wipe σ2 vs = wipe σ vs ∧ tt σ2 H2 fun b H3 =>
      if b = true then te σ2 H3 fun y H4 => ∃ acc, H4 D = some (.lst acc) ∧ acc.length < sizeLine ∧ Pv (i + 1) (upd H4 D (.lst (acc ++ [y]))) else Pv (i + 1) H3) ∧
    (∀ H', Pv xs.length H' → Q (.ref D) H')) : rLcL K g tt te vs σ Q a H := fun D hD => by
  obtain ⟨Pv, h0, hl, hs, hd⟩ := h D hD
  exact lc_list Pv h0 hl hs hd
end
section
variable {X : Cx} {K : PySem.W.Frag}
theorem ix_seqK (h : X.K = K) : IxR X (rIx K) := h ▸ ix_seq
theorem op_eqAK (h : X.K = K) (hu : X.A.units + 64 < cLine) : OpR X (compareOp .Eq) (rEqA K) := h ▸ op_eqA hu
theorem op_neAK (h : X.K = K) (hu : X.A.units + 64 < cLine) : OpR X (compareOp .NotEq) (rNeA K) := h ▸ op_neA hu
theorem op_inK (h : X.K = K) : OpR X (compareOp .In) (rIn K false) := h ▸ op_in_seq
theorem op_ninK (h : X.K = K) : OpR X (compareOp .NotIn) (rIn K true) := h ▸ op_notIn_seq
theorem call_lenAK (h : X.K = K) : CallR X (.builtin "len") (kLen K) := h ▸ call_lenA
theorem call_isiK' (h : X.K = K) : CallR X (.builtin "isinstance") (rIsi K) := h ▸ call_isi
theorem pe_fldK {e : Expr} {te : TE} {f : Str} {pos : Pos} (h : X.K = K) (he : PE X e te) (hb : attributeBase e f X.env (eval e X.env) = eval e X.env := by rfl) : PE X (.Attribute e f pos) (tFld K te f) := h ▸ pe_fld he hb
end
end Lb

namespace LbW
open PySem PySem.Spec PyProof.Rows L2 Lb
/-! the text by places -/
def top (i : Nat) : Stmt := PySem.Challenge.pw_lentbytes_k06_windows_that_meet.main.body.getD i (.Pass ⟨0, 0, 0, 0⟩)
abbrev s_is_integer : Stmt := top 5
abbrev s_shared_number : Stmt := top 6
abbrev s_Window___init__ : Stmt := inClass (top 7) 0
abbrev s_Window___eq__ : Stmt := inClass (top 7) 1
abbrev s_Window___contains__ : Stmt := inClass (top 7) 6
abbrev s_Window_progression : Stmt := inClass (top 7) 7
abbrev s_Window_meets : Stmt := inClass (top 7) 8
abbrev s__law_state : Stmt := top 9
abbrev s__law_pick : Stmt := top 10
abbrev s__law_number : Stmt := top 11
abbrev s__law_is_integer : Stmt := top 12
abbrev s__law_has : Stmt := top 13
abbrev s__law_parts : Stmt := top 14
abbrev s__law_bytes : Stmt := top 15
abbrev s__law_window : Stmt := top 16
abbrev s__law_apart : Stmt := top 17
abbrev s__law_shared : Stmt := top 18
abbrev s_law : Stmt := top 19
abbrev s_BadWindow___init__ : Stmt := inClass (top 3) 0
/-! where the text's things stand -/
structure Ad where
  c_BadWindow : Addr
  c_Window : Addr
  f_is_integer : Addr
  d_is_integer : FuncData
  f_shared_number : Addr
  d_shared_number : FuncData
  f_Window___init__ : Addr
  d_Window___init__ : FuncData
  f_Window___eq__ : Addr
  d_Window___eq__ : FuncData
  f_Window___contains__ : Addr
  d_Window___contains__ : FuncData
  f_Window_progression : Addr
  d_Window_progression : FuncData
  f_Window_meets : Addr
  d_Window_meets : FuncData
  f__law_state : Addr
  d__law_state : FuncData
  f__law_pick : Addr
  d__law_pick : FuncData
  f__law_number : Addr
  d__law_number : FuncData
  f__law_is_integer : Addr
  d__law_is_integer : FuncData
  f__law_has : Addr
  d__law_has : FuncData
  f__law_parts : Addr
  d__law_parts : FuncData
  f__law_bytes : Addr
  d__law_bytes : FuncData
  f__law_window : Addr
  d__law_window : FuncData
  f__law_apart : Addr
  d__law_apart : FuncData
  f__law_shared : Addr
  d__law_shared : FuncData
  f_law : Addr
  d_law : FuncData
  f_BadWindow___init__ : Addr
structure Txt (P : Program) (K : PySem.W.Frag) (mg : Str → Option Value) (A : Ad) : Prop where
  F_is_integer : Fun K "is_integer" "is_integer" s_is_integer A.f_is_integer A.d_is_integer
  b_is_integer : Binds K A.d_is_integer ["value", "low", "high"] []
  g_is_integer : mg "is_integer" = some (.ref A.f_is_integer)
  kp_is_integer : PySem.W.keepIn K (.ref A.f_is_integer) = true
  F_shared_number : Fun K "shared_number" "shared_number" s_shared_number A.f_shared_number A.d_shared_number
  b_shared_number : Binds K A.d_shared_number ["low", "step", "high", "other_low", "other_step", "other_high"] []
  g_shared_number : mg "shared_number" = some (.ref A.f_shared_number)
  kp_shared_number : PySem.W.keepIn K (.ref A.f_shared_number) = true
  F_Window___init__ : Fun K "__init__" "Window.__init__" s_Window___init__ A.f_Window___init__ A.d_Window___init__
  b_Window___init__ : Binds K A.d_Window___init__ ["self", "start", "step", "count", "size"] []
  mt_Window___init__ : Meth K A.c_Window "__init__" A.f_Window___init__
  F_Window___eq__ : Fun K "__eq__" "Window.__eq__" s_Window___eq__ A.f_Window___eq__ A.d_Window___eq__
  b_Window___eq__ : Binds K A.d_Window___eq__ ["self", "other"] []
  mt_Window___eq__ : Meth K A.c_Window "__eq__" A.f_Window___eq__
  F_Window___contains__ : Fun K "__contains__" "Window.__contains__" s_Window___contains__ A.f_Window___contains__ A.d_Window___contains__
  b_Window___contains__ : Binds K A.d_Window___contains__ ["self", "place"] []
  mt_Window___contains__ : Meth K A.c_Window "__contains__" A.f_Window___contains__
  F_Window_progression : Fun K "progression" "Window.progression" s_Window_progression A.f_Window_progression A.d_Window_progression
  b_Window_progression : Binds K A.d_Window_progression ["self", "d"] []
  mt_Window_progression : Meth K A.c_Window "progression" A.f_Window_progression
  F_Window_meets : Fun K "meets" "Window.meets" s_Window_meets A.f_Window_meets A.d_Window_meets
  b_Window_meets : Binds K A.d_Window_meets ["self", "other"] []
  mt_Window_meets : Meth K A.c_Window "meets" A.f_Window_meets
  F__law_state : Fun K "_law_state" "_law_state" s__law_state A.f__law_state A.d__law_state
  b__law_state : Binds K A.d__law_state ["_law_script", "_law_k"] []
  g__law_state : mg "_law_state" = some (.ref A.f__law_state)
  kp__law_state : PySem.W.keepIn K (.ref A.f__law_state) = true
  F__law_pick : Fun K "_law_pick" "_law_pick" s__law_pick A.f__law_pick A.d__law_pick
  b__law_pick : Binds K A.d__law_pick ["_law_state_here", "_law_many"] []
  g__law_pick : mg "_law_pick" = some (.ref A.f__law_pick)
  kp__law_pick : PySem.W.keepIn K (.ref A.f__law_pick) = true
  F__law_number : Fun K "_law_number" "_law_number" s__law_number A.f__law_number A.d__law_number
  b__law_number : Binds K A.d__law_number ["_law_script", "_law_k"] []
  g__law_number : mg "_law_number" = some (.ref A.f__law_number)
  kp__law_number : PySem.W.keepIn K (.ref A.f__law_number) = true
  F__law_is_integer : Fun K "_law_is_integer" "_law_is_integer" s__law_is_integer A.f__law_is_integer A.d__law_is_integer
  b__law_is_integer : Binds K A.d__law_is_integer ["_law_value"] []
  g__law_is_integer : mg "_law_is_integer" = some (.ref A.f__law_is_integer)
  kp__law_is_integer : PySem.W.keepIn K (.ref A.f__law_is_integer) = true
  F__law_has : Fun K "_law_has" "_law_has" s__law_has A.f__law_has A.d__law_has
  b__law_has : Binds K A.d__law_has ["_law_parts_here", "_law_byte"] []
  g__law_has : mg "_law_has" = some (.ref A.f__law_has)
  kp__law_has : PySem.W.keepIn K (.ref A.f__law_has) = true
  F__law_parts : Fun K "_law_parts" "_law_parts" s__law_parts A.f__law_parts A.d__law_parts
  b__law_parts : Binds K A.d__law_parts ["_law_state_here", "_law_wide"] []
  g__law_parts : mg "_law_parts" = some (.ref A.f__law_parts)
  kp__law_parts : PySem.W.keepIn K (.ref A.f__law_parts) = true
  F__law_bytes : Fun K "_law_bytes" "_law_bytes" s__law_bytes A.f__law_bytes A.d__law_bytes
  b__law_bytes : Binds K A.d__law_bytes ["_law_parts_here"] []
  g__law_bytes : mg "_law_bytes" = some (.ref A.f__law_bytes)
  kp__law_bytes : PySem.W.keepIn K (.ref A.f__law_bytes) = true
  F__law_window : Fun K "_law_window" "_law_window" s__law_window A.f__law_window A.d__law_window
  b__law_window : Binds K A.d__law_window ["_law_parts_here", "_law_distance"] []
  g__law_window : mg "_law_window" = some (.ref A.f__law_window)
  kp__law_window : PySem.W.keepIn K (.ref A.f__law_window) = true
  F__law_apart : Fun K "_law_apart" "_law_apart" s__law_apart A.f__law_apart A.d__law_apart
  b__law_apart : Binds K A.d__law_apart ["_law_one", "_law_two", "_law_state_here"] []
  g__law_apart : mg "_law_apart" = some (.ref A.f__law_apart)
  kp__law_apart : PySem.W.keepIn K (.ref A.f__law_apart) = true
  F__law_shared : Fun K "_law_shared" "_law_shared" s__law_shared A.f__law_shared A.d__law_shared
  b__law_shared : Binds K A.d__law_shared ["_law_one", "_law_two", "_law_state_here"] []
  g__law_shared : mg "_law_shared" = some (.ref A.f__law_shared)
  kp__law_shared : PySem.W.keepIn K (.ref A.f__law_shared) = true
  F_law : Fun K "law" "law" s_law A.f_law A.d_law
  b_law : Binds K A.d_law ["_law_script"] []
  g_law : mg "law" = some (.ref A.f_law)
  kp_law : PySem.W.keepIn K (.ref A.f_law) = true
  g_BadWindow : mg "BadWindow" = some (.ref A.c_BadWindow)
  g_Window : mg "Window" = some (.ref A.c_Window)
  cl_Window : Cls K A.c_Window
  mk_Window : Mk K A.c_Window A.f_Window___init__
  na_Window_start : NoAttr K A.c_Window "start"
  na_Window_step : NoAttr K A.c_Window "step"
  na_Window_count : NoAttr K A.c_Window "count"
  na_Window_size : NoAttr K A.c_Window "size"
  ic_Window : IsiC K A.c_Window
  x_BadWindow : XTxt P K mg "BadWindow" A.c_BadWindow A.f_BadWindow___init__ "part"
  sf_Window : PySem.W.selfFirst K A.c_Window = true
  n_Window : PySem.W.findIn K (.ref A.c_Window) "__ne__" = some (some (.builtin "object.__ne__"))
  m_Window : PySem.W.mroIn K A.c_Window (.type "object") = some true
  o_Window___contains__ : OwnDef K A.c_Window "__contains__" A.f_Window___contains__
  o_Window___eq__ : OwnDef K A.c_Window "__eq__" A.f_Window___eq__
  z_abs : mg "abs" = none
  z_bool : mg "bool" = none
  z_int : mg "int" = none
  z_isinstance : mg "isinstance" = none
  z_len : mg "len" = none
  z_max : mg "max" = none
  z_min : mg "min" = none
  z_range : mg "range" = none
theorem ne_start_step : ¬ (("start" : Str) = "step") := by decide +kernel
theorem ne_start_count : ¬ (("start" : Str) = "count") := by decide +kernel
theorem ne_start_size : ¬ (("start" : Str) = "size") := by decide +kernel
theorem ne_step_start : ¬ (("step" : Str) = "start") := by decide +kernel
theorem ne_step_count : ¬ (("step" : Str) = "count") := by decide +kernel
theorem ne_step_size : ¬ (("step" : Str) = "size") := by decide +kernel
theorem ne_count_start : ¬ (("count" : Str) = "start") := by decide +kernel
theorem ne_count_step : ¬ (("count" : Str) = "step") := by decide +kernel
theorem ne_count_size : ¬ (("count" : Str) = "size") := by decide +kernel
theorem ne_size_start : ¬ (("size" : Str) = "start") := by decide +kernel
theorem ne_size_step : ¬ (("size" : Str) = "step") := by decide +kernel
theorem ne_size_count : ¬ (("size" : Str) = "count") := by decide +kernel
theorem ne___contains___start : ¬ (("__contains__" : Str) = "start") := by decide +kernel
theorem ne___contains___step : ¬ (("__contains__" : Str) = "step") := by decide +kernel
theorem ne___contains___count : ¬ (("__contains__" : Str) = "count") := by decide +kernel
theorem ne___contains___size : ¬ (("__contains__" : Str) = "size") := by decide +kernel
theorem ne___eq___start : ¬ (("__eq__" : Str) = "start") := by decide +kernel
theorem ne___eq___step : ¬ (("__eq__" : Str) = "step") := by decide +kernel
theorem ne___eq___count : ¬ (("__eq__" : Str) = "count") := by decide +kernel
theorem ne___eq___size : ¬ (("__eq__" : Str) = "size") := by decide +kernel
theorem ne___init___start : ¬ (("__init__" : Str) = "start") := by decide +kernel
theorem ne___init___step : ¬ (("__init__" : Str) = "step") := by decide +kernel
theorem ne___init___count : ¬ (("__init__" : Str) = "count") := by decide +kernel
theorem ne___init___size : ¬ (("__init__" : Str) = "size") := by decide +kernel
theorem ne_byte_places_start : ¬ (("byte_places" : Str) = "start") := by decide +kernel
theorem ne_byte_places_step : ¬ (("byte_places" : Str) = "step") := by decide +kernel
theorem ne_byte_places_count : ¬ (("byte_places" : Str) = "count") := by decide +kernel
theorem ne_byte_places_size : ¬ (("byte_places" : Str) = "size") := by decide +kernel
theorem ne_cell_start : ¬ (("cell" : Str) = "start") := by decide +kernel
theorem ne_cell_step : ¬ (("cell" : Str) = "step") := by decide +kernel
theorem ne_cell_count : ¬ (("cell" : Str) = "count") := by decide +kernel
theorem ne_cell_size : ¬ (("cell" : Str) = "size") := by decide +kernel
theorem ne_meets_start : ¬ (("meets" : Str) = "start") := by decide +kernel
theorem ne_meets_step : ¬ (("meets" : Str) = "step") := by decide +kernel
theorem ne_meets_count : ¬ (("meets" : Str) = "count") := by decide +kernel
theorem ne_meets_size : ¬ (("meets" : Str) = "size") := by decide +kernel
theorem ne_progression_start : ¬ (("progression" : Str) = "start") := by decide +kernel
theorem ne_progression_step : ¬ (("progression" : Str) = "step") := by decide +kernel
theorem ne_progression_count : ¬ (("progression" : Str) = "count") := by decide +kernel
theorem ne_progression_size : ¬ (("progression" : Str) = "size") := by decide +kernel
theorem ne_recast_start : ¬ (("recast" : Str) = "start") := by decide +kernel
theorem ne_recast_step : ¬ (("recast" : Str) = "step") := by decide +kernel
theorem ne_recast_count : ¬ (("recast" : Str) = "count") := by decide +kernel
theorem ne_recast_size : ¬ (("recast" : Str) = "size") := by decide +kernel
theorem ne_sliced_start : ¬ (("sliced" : Str) = "start") := by decide +kernel
theorem ne_sliced_step : ¬ (("sliced" : Str) = "step") := by decide +kernel
theorem ne_sliced_count : ¬ (("sliced" : Str) = "count") := by decide +kernel
theorem ne_sliced_size : ¬ (("sliced" : Str) = "size") := by decide +kernel
theorem lk_nil (f : Str) : ([] : List (Str × V)).lookup f = none := rfl
theorem lk_cons (f g : Str) (v : V) (fs : List (Str × V)) : ((g, v) :: fs).lookup f = if f = g then some v else fs.lookup f := by
  by_cases e : f = g
  · subst e; simp [List.lookup]
  · have : (f == g) = false := by simpa using e
    simp [List.lookup, this, e]
local macro_rules | `(tactic| walk_at "lb_lk") => `(tactic| ((try simp only [lk_cons, lk_nil, if_true, if_false, ne_start_step, ne_start_count, ne_start_size, ne_step_start, ne_step_count, ne_step_size, ne_count_start, ne_count_step, ne_count_size, ne_size_start, ne_size_step, ne_size_count, ne___contains___start, ne___contains___step, ne___contains___count, ne___contains___size, ne___eq___start, ne___eq___step, ne___eq___count, ne___eq___size, ne___init___start, ne___init___step, ne___init___count, ne___init___size, ne_byte_places_start, ne_byte_places_step, ne_byte_places_count, ne_byte_places_size, ne_cell_start, ne_cell_step, ne_cell_count, ne_cell_size, ne_meets_start, ne_meets_step, ne_meets_count, ne_meets_size, ne_progression_start, ne_progression_step, ne_progression_count, ne_progression_size, ne_recast_start, ne_recast_step, ne_recast_count, ne_recast_size, ne_sliced_start, ne_sliced_step, ne_sliced_count, ne_sliced_size]); (try rfl)))
local macro_rules | `(tactic| walk_at "lb_pf") => `(tactic| (simp only [putF, upd_upd, if_true, if_false, ne_start_step, ne_start_count, ne_start_size, ne_step_start, ne_step_count, ne_step_size, ne_count_start, ne_count_step, ne_count_size, ne_size_start, ne_size_step, ne_size_count, ne___contains___start, ne___contains___step, ne___contains___count, ne___contains___size, ne___eq___start, ne___eq___step, ne___eq___count, ne___eq___size, ne___init___start, ne___init___step, ne___init___count, ne___init___size, ne_byte_places_start, ne_byte_places_step, ne_byte_places_count, ne_byte_places_size, ne_cell_start, ne_cell_step, ne_cell_count, ne_cell_size, ne_meets_start, ne_meets_step, ne_meets_count, ne_meets_size, ne_progression_start, ne_progression_step, ne_progression_count, ne_progression_size, ne_recast_start, ne_recast_step, ne_recast_count, ne_recast_size, ne_sliced_start, ne_sliced_step, ne_sliced_count, ne_sliced_size]))
local macro_rules | `(tactic| walk_at "lb_T") =>  `(tactic| first | exact Txt.cl_Window (by assumption) | exact Txt.na_Window_start (by assumption) | exact Txt.na_Window_step (by assumption) | exact Txt.na_Window_count (by assumption) | exact Txt.na_Window_size (by assumption) | exact Txt.ic_Window (by assumption) | fail)
section
variable {P : Program} {w : World} {K : PySem.W.Frag} {mg : Str → Option Value} {base : Heap} {A : Ad}
/-! the steps of a reading -/
local macro_rules | `(tactic| walk_at "lb_ne") => `(tactic| first | with_reducible assumption | (refine Ne.symm ?_; with_reducible assumption) | (refine' ne_of_none ?h1 ?h2; (case h2 => with_reducible assumption); (case h1 => walk_at "lb_h")) | (refine Ne.symm ?_; refine' ne_of_none ?h1 ?h2; (case h2 => with_reducible assumption); (case h1 => walk_at "lb_h")))
local macro_rules | `(tactic| walk_at "lb_h") => `(tactic| first | with_reducible assumption | exact upd_same | ((refine' Eq.trans (upd_ne ?hne) ?hre); (case hne => walk_at "lb_ne"); (case hre => walk_at "lb_h")) | ((refine' (by assumption : Same _ _) _ _ ?hre); (case hre => walk_at "lb_h")) | ((refine' (by assumption : Kp _ _ _) _ _ ?hni ?hre); (case hni => walk_at "lb_ni"); (case hre => walk_at "lb_h")))
local macro_rules | `(tactic| walk_at "lb_ni") => `(tactic| first | exact ni0 | (refine ni_cons ?hne ?_; (case hne => walk_at "lb_ne"); walk_at "lb_ni"))
local macro_rules | `(tactic| walk_at "lb_mem") => `(tactic| first | with_reducible exact List.Mem.head _ | (with_reducible refine List.Mem.tail _ ?_; walk_at "lb_mem"))
local macro_rules | `(tactic| walk_at "lb_kp") => `(tactic| first | with_reducible assumption | exact kp_refl | (refine kp_in ?_ ?hm; (case hm => walk_at "lb_mem"); walk_at "lb_kp") | (refine kp_new ?_ (by assumption); walk_at "lb_kp") | (refine kp_same ?_ (by assumption); walk_at "lb_kp") | (refine kp_kp ?_ (by assumption) (fun _ h => h); walk_at "lb_kp"))
/- one step of a reading -/
local macro_rules | `(tactic| walk_at "lb0") => `(tactic| first
  | with_reducible refine c_asg ?_ | with_reducible refine c_drop ?_ | with_reducible refine c_ret ?_ | with_reducible refine c_retN ?_ | with_reducible refine c_next ?_ | with_reducible refine c_sfld ?_
  | ((with_reducible refine' c_var ?h ?_); (case h => rfl)) | with_reducible refine c_c ?_ | with_reducible refine c_op ?_ | with_reducible refine c_un ?_ | with_reducible refine c_test ?_ | with_reducible refine c_B ?_
  | with_reducible refine c_cons ?_ | with_reducible refine c_nil ?_ | with_reducible refine c_CB ?_ | with_reducible refine c_callX ?_ | with_reducible refine c_makeX ?_ | with_reducible refine c_methX ?_
  | with_reducible refine c_bm ?_ | ((with_reducible refine' c_app1 ?h ?_); (case h => walk_at "lb_h")) | ((with_reducible refine' c_app2 ?h ?hz ?_); (case h => walk_at "lb_h"); (case hz => first | with_reducible assumption | (simp only [List.length_map, List.length_range, List.length_append, List.length_cons, List.length_nil]; omega)))
  | ((with_reducible refine' c_divZ ?h ?_); (case h => walk_at "lb_divZ")) | ((with_reducible refine' c_modZ ?h ?_); (case h => first | with_reducible assumption | omega)) | ((with_reducible refine' c_inOwn ?h ?_); (case h => walk_at "lb_h"))
  | with_reducible refine c_bl ?_ | with_reducible refine iteT ?_ | with_reducible refine iteF ?_ | with_reducible refine c_ifNT ?_ | with_reducible refine c_ifNF ?_ | with_reducible refine c_chain ?_ | with_reducible refine c_not ?_ | with_reducible refine c_and ?_ | with_reducible refine c_or ?_ | with_reducible refine c_andV ?_ | with_reducible refine c_orV ?_ | with_reducible refine c_notV ?_ | with_reducible refine c_ifE ?_
  | with_reducible refine c_fld ?_
  | ((with_reducible refine' c_fld1 ?h1 ?h2 ?h3 ?h4 ?_); (case h1 => walk_at "lb_h"); (case h2 => walk_at "lb_T"); (case h3 => walk_at "lb_T"); (case h4 => walk_at "lb_lk"))
  | ((with_reducible refine' c_sfld1 ?h1 ?h2 ?h3 ?h4 ?_); (case h1 => walk_at "lb_h"); (case h2 => walk_at "lb_T"); (case h3 => walk_at "lb_T"); (case h4 => ((try walk_at "lb_pf"); (try simp only [List.length_cons, List.length_nil]); (first | decide | omega))))
  | ((with_reducible refine' c_meth2 ?h1 ?h2 ?_); (case h1 => walk_at "lb_h"); (case h2 => walk_at "lb_lk"))
  | ((with_reducible refine' c_meth1 ?h1 ?h2 ?_); (case h1 => walk_at "lb_h"); (case h2 => walk_at "lb_lk"))
  | with_reducible refine c_addI ?_ | with_reducible refine c_subI ?_ | ((with_reducible refine' c_mulI ?h ?_); (case h => walk_at "lb_mul")) | ((with_reducible refine' c_divI ?h ?_); (case h => walk_at "lb_div")) | ((with_reducible refine' c_modI ?h ?_); (case h => walk_at "lb_pos"))
  | ((with_reducible refine' c_powI ?h ?_); (case h => exact ⟨by decide, by decide, by decide⟩); (try dsimp only [Int.reduceToNat, Int.reducePow])) | with_reducible refine c_negI ?_
  | with_reducible refine c_lt ?_ | with_reducible refine c_le ?_ | with_reducible refine c_gt ?_ | with_reducible refine c_ge ?_ | with_reducible refine c_eqI ?_ | with_reducible refine c_neI ?_ | with_reducible refine c_eqB ?_ | with_reducible refine c_neB ?_ | with_reducible refine c_eqS ?_ | with_reducible refine c_neS ?_
  | with_reducible refine c_is0 ?_ | with_reducible refine c_isnt0 ?_ | with_reducible refine c_intI ?_ | with_reducible refine c_intB ?_ | with_reducible refine c_boolB ?_ | with_reducible refine c_abs ?_
  | with_reducible refine c_isi_int_int ?_ | with_reducible refine c_isi_int_bool ?_ | with_reducible refine c_isi_bl_int ?_ | with_reducible refine c_isi_bl_bool ?_ | with_reducible refine c_isi_non_int ?_ | with_reducible refine c_isi_str_int ?_
  | ((with_reducible refine' c_isiOwn ?h1 ?h2 ?_); (case h1 => walk_at "lb_T"); (case h2 => walk_at "lb_h"))
  | with_reducible refine c_raiseX ?_ | with_reducible refine c_callC ?_ | with_reducible refine c_asgG ?_ | with_reducible refine c_gSub ?_ | with_reducible refine c_gName ?_ | with_reducible refine c_xfY ?_ | with_reducible refine c_raiseY ?_ | ((with_reducible refine' c_gTup ?h ?hl ?_); (case h => walk_at "lb_sqT"); (case hl => rfl)) | with_reducible refine c_gCons ?_ | with_reducible refine c_gNil ?_ | with_reducible refine c_sl ?_ | with_reducible refine c_noPart ?_ | with_reducible refine c_part ?_ | with_reducible refine c_int ?_ | ((with_reducible refine' c_ext2 ?h1 ?h2 ?hz ?_); (case h1 => walk_at "lb_h"); (case h2 => walk_at "lb_h"); (case hz => first | with_reducible assumption | (simp only [List.length_map, List.length_range, List.length_append, List.length_cons, List.length_nil]; omega))) | ((with_reducible refine' c_ninOwn ?h ?_); (case h => walk_at "lb_h")) | ((with_reducible refine' c_max2 ?h ?_); (case h => walk_at "lb_sq")) | ((with_reducible refine' c_min2 ?h ?_); (case h => walk_at "lb_sq")) | with_reducible refine c_lst ?_ | with_reducible refine c_tup ?_
  | ((with_reducible refine' c_setL ?h ?hi ?_); (case h => walk_at "lb_h"); (case hi => first | with_reducible assumption | rfl); (try dsimp only [Int.reduceToNat, List.set]))
  | with_reducible refine c_callI ?_ | ((with_reducible refine' c_insI ?h ?_); (case h => walk_at "lb_h")) | with_reducible refine c_ref ?_ | ((with_reducible refine' c_insC ?h ?_); (case h => walk_at "lb_h"))
  | ((with_reducible refine' c_own2 ?h1 ?h2 ?_); (case h1 => walk_at "lb_h"); (case h2 => walk_at "lb_h")) | ((with_reducible refine' c_ownNe ?h1 ?h2 ?_); (case h1 => walk_at "lb_h"); (case h2 => walk_at "lb_h"))
  | ((with_reducible refine' c_ownI ?h1 ?_); (case h1 => walk_at "lb_h")) | ((with_reducible refine' c_ownU ?h1 ?_); (case h1 => walk_at "lb_h"))
  | ((with_reducible refine' c_lenL ?h ?_); (case h => walk_at "lb_sq")) | ((fail_if_success (with_reducible show rIx _ _ (V.int (ite _ _ _)) _ _)); (with_reducible refine' c_ixL ?h ?h2 ?_); (case h => walk_at "lb_sq"); (case h2 => walk_at "lb_at")) | ((fail_if_success (with_reducible show rIx _ _ (V.int (ite _ _ _)) _ _)); (with_reducible refine' c_ixT ?h ?h2 ?_); (case h => walk_at "lb_sqT"); (case h2 => walk_at "lb_at")))
local macro_rules | `(tactic| walk_at "lb_divZ") => `(tactic| first | with_reducible assumption | exact divZ_of (b := 200) (by omega) (by omega) (by decide) (by decide))
local macro_rules | `(tactic| walk_at "lb_lc") => `(tactic| ((with_reducible refine c_lcR ?_); walk_at "lb_go"))
local macro_rules | `(tactic| walk_at "lb") => `(tactic| first
  | ((fail_if_success (with_reducible show tSeq (tIfS _ _ _) _ _ _ _)); (fail_if_success (with_reducible show tSeq (tFor _ _ _) _ _ _ _)); (fail_if_success (with_reducible show tSeq (tWhile _ _) _ _ _ _)); (with_reducible refine c_seq ?_))
  | walk_at "lb0")
local macro_rules | `(tactic| walk_at "lb_mul") => `(tactic| first | with_reducible assumption | exact wide_mul (a := 200) (b := 200) (by omega) (by omega) (by decide) (by decide) (by decide))
local macro_rules | `(tactic| walk_at "lb_div") => `(tactic| first | with_reducible assumption | exact wide_div (b := 200) (by omega) (by omega) (by decide) (by decide))
local macro_rules | `(tactic| walk_at "lb_at") => `(tactic| first | with_reducible assumption | with_reducible exact at0 | with_reducible exact at1 | with_reducible exact at2 | with_reducible exact at3 | with_reducible exact at4 | with_reducible exact at5)
local macro_rules | `(tactic| walk_at "lb_pos") => `(tactic| first | with_reducible assumption | omega | decide)
local macro_rules | `(tactic| walk_at "lb_sq") => `(tactic| first | with_reducible assumption | exact SqL.of (by walk_at "lb_h") | exact sqKp (by assumption) (by assumption) (by walk_at "lb_kp"))
local macro_rules | `(tactic| walk_at "lb_sqT") => `(tactic| first | with_reducible assumption | exact SqT.of (by walk_at "lb_h"))
local macro_rules | `(tactic| walk_at "lb_go") => `(tactic| ((repeat (walk_at "lb")); (try with_reducible show tSeq _ _ _ _ _)))
local macro_rules | `(tactic| walk_at "lb_if") => `(tactic| ((try with_reducible refine c_seq ?_); (with_reducible refine c_ifS ?_); walk_at "lb_go"))
local macro_rules | `(tactic| walk_at "lb_one") => `(tactic| ((repeat (walk_at "lb0")); (try with_reducible show tSeq _ _ _ _ _)))
local macro_rules | `(tactic| walk_at "lb_st") => `(tactic| ((try with_reducible refine c_seq ?_); (repeat (walk_at "lb0")); (try with_reducible show tSeq _ _ _ _ _)))
local macro_rules | `(tactic| walk_at "lb_for") => `(tactic| ((try with_reducible refine c_seq ?_); (with_reducible refine c_for1 ?_); walk_at "lb_go"))
local macro_rules | `(tactic| walk_at "lb_forL") => `(tactic| ((try with_reducible refine c_seq ?_); (with_reducible refine c_forL ?_); walk_at "lb_go"))
local macro_rules | `(tactic| walk_at "lb_forT") => `(tactic| ((try with_reducible refine c_seq ?_); (with_reducible refine c_forT ?_); walk_at "lb_go"))
local macro_rules | `(tactic| walk_at "lb_lcL") => `(tactic| ((with_reducible refine c_lcL ?_); walk_at "lb_go"))

/-- a plain value: none, a bool, an int, a text, a tuple, a list -/
inductive SV (H : Hp) : V → Prop
  | non : SV H .non
  | bl (b : Bool) : SV H (.bl b)
  | int (n : Int) : SV H (.int n)
  | str (s : Str) : SV H (.str s)
  | tup {a : Addr} {xs : List V} (h : H a = some (.tup xs)) : SV H (.ref a)
  | lst {a : Addr} {xs : List V} (h : H a = some (.lst xs)) : SV H (.ref a)
def isI : V → V → V → Bool
  | .int n, lo, hi => (match lo with | .int l => decide (l ≤ n) | _ => true) && (match hi with | .int h => decide (n ≤ h) | _ => true)
  | _, _, _ => false
theorem isI_int {v lo hi : V} (h : isI v lo hi = true) : ∃ n, v = .int n := by
  cases v <;> first | exact ⟨_, rfl⟩ | cases h
def sp_is_integer (K : PySem.W.Frag) (A : Ad) : Sp := fun vs H Q E => ∃ (v lo hi : V), vs = [v, lo, hi] ∧ SV H v ∧ (lo = .non ∨ ∃ l, lo = .int l) ∧ (hi = .non ∨ ∃ h, hi = .int h) ∧ Q (.bl (isI v lo hi)) H
theorem sc_is_integer : FnScope ["value", "low", "high"] ["value", "low", "high"] (defScope s_is_integer) := ⟨rfl, rfl, rfl, by decide +kernel, rfl, by decide +kernel, by decide +kernel⟩
theorem ok_is_integer (T : Txt P K mg A) : FnOk P w K mg base (L2.CX P w) 1 A.f_is_integer A.d_is_integer ["value", "low", "high"] (sp_is_integer K A) := by
  refine T.F_is_integer.okX sc_is_integer ?len (fun cdv Ar outer s H vs Q E hr h => ?_)
  case len => intro vs H Q E h; obtain ⟨_, _, _, rfl, _⟩ := h; rfl
  · refine ⟨_, ((pss_cons (ps_if (PW.pt (pw_or (pt_not (pt_val (pe_callB call_isi (by rfl) T.z_isinstance (by decide +kernel) (pa_cons (pv 0) (pa_cons (pe_bltn (v := .ty "int") (by rfl) T.z_int (by decide +kernel) rfl) pa_nil))) (by intro _; rfl))) (pw_or1 (pt_val (pe_callB call_isi (by rfl) T.z_isinstance (by decide +kernel) (pa_cons (pv 0) (pa_cons (pe_bltn (v := .ty "bool") (by rfl) T.z_bool (by decide +kernel) rfl) pa_nil))) (by intro _; rfl))))) (pss_one (ps_ret pe_bl)) pss_nil)
      (pss_cons (ps_if (PW.pt (pw_and (pt_cmpR op_isnt0 (pv 1) pe_non (nomark _)) (pw_and1 (pt_cmpR op_ltI (pv 0) (pv 1) (nomark _))))) (pss_one (ps_ret pe_bl)) pss_nil)
      (pss_one (ps_ret (pe_or (pe_cmpR op_is0 (pv 2) pe_non (nomark _)) (pe_one (pe_cmpR op_leI (pv 0) (pv 2) (nomark _))))))))), ?_⟩
    try dsimp only [cxOf]
    obtain ⟨v, lo, hi, rfl, hv, hlo, hhi, k⟩ := h
    refine c_start (σ' := [some _, some _, some _]) (by rfl) ?_
    walk_at "lb_go"
    walk_at "lb_if"
    cases hv with
    | int n =>
      walk_at "lb_go"
      walk_at "lb_if"
      rcases hlo with rfl | ⟨l, rfl⟩
      · refine c_ifFN rfl ?_
        walk_at "lb_go"
        rcases hhi with rfl | ⟨m, rfl⟩
        · refine c_ifT rfl ?_
          walk_at "lb_go"
          exact k
        · refine c_ifF (by simp) ?_
          walk_at "lb_go"
          exact k
      · refine c_ifTN (by simp) ?_
        walk_at "lb_go"
        refine c_ifD (fun e1 => ?_) (fun e1 => ?_)
        · walk_at "lb_go"
          have e : isI (.int n) (.int l) hi = false := by
            show (decide (l ≤ n) && _) = false
            rw [decide_eq_false (by omega)]; rfl
          rw [e] at k
          exact k
        · walk_at "lb_go"
          rcases hhi with rfl | ⟨m, rfl⟩
          · refine c_ifT rfl ?_
            walk_at "lb_go"
            have e : isI (.int n) (.int l) .non = true := by simp [isI]; omega
            rw [e] at k
            exact k
          · refine c_ifF (by simp) ?_
            walk_at "lb_go"
            have e : isI (.int n) (.int l) (.int m) = decide (n ≤ m) := by simp [isI]; omega
            rw [e] at k
            exact k
    | non => walk_at "lb_go"; exact k
    | str s => walk_at "lb_go"; exact k
    | bl b => walk_at "lb_go"; exact k
    | tup h => refine c_isi_tuple_int h ?_; walk_at "lb_go"; exact k
    | lst h => refine c_isi_list_int h ?_; walk_at "lb_go"; exact k
/-- the least wrong part of a window's four values -/
def wp (s t c z : V) : Option Int :=
  if isI s .non .non = true then
    match t with
    | .int n => if n = 0 then some 1 else if isI c (.int 0) .non = true then
        match z with
        | .int m => if m < 1 ∨ 4 < m ∨ m = 3 ∨ (if n < 0 then -n else n) < m then some 3 else none
        | _ => some 3
      else some 2
    | _ => some 1
  else some 0
theorem wp_ok {s t c z : V} (h : wp s t c z = none) : ∃ a n k m : Int, s = .int a ∧ t = .int n ∧ c = .int k ∧ z = .int m ∧ n ≠ 0 ∧ 0 ≤ k ∧ 1 ≤ m ∧ m ≤ 4 ∧ m ≠ 3 ∧ m ≤ (if n < 0 then -n else n) := by
  unfold wp at h
  by_cases h1 : isI s .non .non = true
  · rw [if_pos h1] at h
    obtain ⟨a, rfl⟩ := isI_int h1
    cases t with
    | int n =>
      dsimp only at h
      by_cases h2 : n = 0
      · rw [if_pos h2] at h; cases h
      rw [if_neg h2] at h
      by_cases h3 : isI c (.int 0) .non = true
      · rw [if_pos h3] at h
        obtain ⟨k, rfl⟩ := isI_int h3
        have hk : 0 ≤ k := by simpa [isI] using h3
        cases z with
        | int m =>
          dsimp only at h
          by_cases h4 : m < 1 ∨ 4 < m ∨ m = 3 ∨ (if n < 0 then -n else n) < m
          · rw [if_pos h4] at h; cases h
          · exact ⟨a, n, k, m, rfl, rfl, rfl, rfl, h2, hk, by omega, by omega, by omega, by omega⟩
        | _ => cases h
      · rw [if_neg h3] at h; cases h
    | _ => cases h
  · rw [if_neg h1] at h; cases h
def WinAt (A : Ad) (H : Hp) (p : Addr) (s t c z : Int) : Prop := ∃ dx, H p = some (.ins A.c_Window dx [("start", .int s), ("step", .int t), ("count", .int c), ("size", .int z)])
theorem WinAt.same {A : Ad} {H H' : Hp} {p : Addr} {a b c d : Int} (s : Same H H') (h : WinAt A H p a b c d) : WinAt A H' p a b c d := let ⟨dx, e⟩ := h; ⟨dx, s _ _ e⟩
def raiseBW (A : Ad) (H : Hp) (E : XK) (k : Int) : Prop := ∀ d, H d = none → E (.ref A.c_BadWindow) (some d) (upd H d (.xd [("part", .int k)]))
def sp_Window___init__ (K : PySem.W.Frag) (A : Ad) : Sp := fun vs H Q E => ∃ (p dx : Addr) (s t c z : V), vs = [.ref p, s, t, c, z] ∧ SV H s ∧ SV H t ∧ SV H c ∧ SV H z ∧ H p = some (.ins A.c_Window dx []) ∧
  (∀ k, wp s t c z = some k → raiseBW A H E k) ∧ (wp s t c z = none → Q .non (upd H p (.ins A.c_Window dx [("start", s), ("step", t), ("count", c), ("size", z)])))
theorem sc_Window___init__ : FnScope ["self", "start", "step", "count", "size"] ["self", "start", "step", "count", "size"] (defScope s_Window___init__) := ⟨rfl, rfl, rfl, by decide +kernel, rfl, by decide +kernel, by decide +kernel⟩
theorem ok_Window___init__ (T : Txt P K mg A) : FnOk P w K mg base (L2.CX P w) 3 A.f_Window___init__ A.d_Window___init__ ["self", "start", "step", "count", "size"] (sp_Window___init__ K A) := by
  have G_is_integer : FnR P w K mg base (L2.CX P w) 1 A.f_is_integer (sp_is_integer K A) := FnOk.r0 (ok_is_integer T) T.b_is_integer
  refine T.F_Window___init__.okX sc_Window___init__ ?len (fun cdv Ar outer s H vs Q E hr h => ?_)
  case len => intro vs H Q E h; obtain ⟨_, _, _, _, _, _, rfl, _⟩ := h; rfl
  · refine ⟨_, ((pss_cons (ps_if (pt_not (pt_val (pe_callX G_is_integer (hr.mono (by decide)) rfl T.g_is_integer T.kp_is_integer (fun σ => passAt (takes_of rfl rfl rfl rfl) σ) (pa_cons (pv 1) (pa_cons pe_non (pa_cons pe_non pa_nil)))) (by intro _; rfl))) (pss_one (ps_raiseX T.x_BadWindow (hr.mono (by decide)) rfl (takes_of rfl rfl rfl rfl) rfl (pa_cons pe_int pa_nil))) pss_nil)
      (pss_cons (ps_if (PW.pt (pw_or (pt_not (pt_val (pe_callX G_is_integer (hr.mono (by decide)) rfl T.g_is_integer T.kp_is_integer (fun σ => passAt (takes_of rfl rfl rfl rfl) σ) (pa_cons (pv 2) (pa_cons pe_non (pa_cons pe_non pa_nil)))) (by intro _; rfl))) (pw_or1 (pt_cmpR (op_eqA (hr.units)) (pv 2) pe_int (nomark _))))) (pss_one (ps_raiseX T.x_BadWindow (hr.mono (by decide)) rfl (takes_of rfl rfl rfl rfl) rfl (pa_cons pe_int pa_nil))) pss_nil)
      (pss_cons (ps_if (pt_not (pt_val (pe_callX G_is_integer (hr.mono (by decide)) rfl T.g_is_integer T.kp_is_integer (fun σ => passAt (takes_of rfl rfl rfl rfl) σ) (pa_cons (pv 3) (pa_cons pe_int (pa_cons pe_non pa_nil)))) (by intro _; rfl))) (pss_one (ps_raiseX T.x_BadWindow (hr.mono (by decide)) rfl (takes_of rfl rfl rfl rfl) rfl (pa_cons pe_int pa_nil))) pss_nil)
      (pss_cons (ps_if (PW.pt (pw_or (pt_not (pt_val (pe_callX G_is_integer (hr.mono (by decide)) rfl T.g_is_integer T.kp_is_integer (fun σ => passAt (takes_of rfl rfl rfl rfl) σ) (pa_cons (pv 4) (pa_cons pe_int (pa_cons pe_int pa_nil)))) (by intro _; rfl))) (pw_or (pt_cmpR (op_eqA (hr.units)) (pv 4) pe_int (nomark _)) (pw_or1 (pt_cmpR op_gtI (pv 4) (pe_callB call_absA (by rfl) T.z_abs (by decide +kernel) (pa_cons (pv 2) pa_nil)) (nomark _)))))) (pss_one (ps_raiseX T.x_BadWindow (hr.mono (by decide)) rfl (takes_of rfl rfl rfl rfl) rfl (pa_cons pe_int pa_nil))) pss_nil)
      (pss_cons (ps_fld (pv 0) (pv 1) rfl)
      (pss_cons (ps_fld (pv 0) (pv 2) rfl)
      (pss_cons (ps_fld (pv 0) (pv 3) rfl)
      (pss_one (ps_fld (pv 0) (pv 4) rfl)))))))))), ?_⟩
    try dsimp only [cxOf]
    obtain ⟨p, dx, s, t, c, z, rfl, vs, vt, vc, vz, h1, kE, kQ⟩ := h
    refine c_start (σ' := [some _, some _, some _, some _, some _]) (by rfl) ?_
    walk_at "lb_go"
    walk_at "lb_if"
    refine ⟨_, _, _, rfl, vs, .inl rfl, .inl rfl, ?_⟩
    walk_at "lb_go"
    cases h1s : isI s .non .non
    · walk_at "lb_go"
      refine ⟨_, rfl, fun d hd => kE 0 (by simp [wp, h1s]) d hd⟩
    walk_at "lb_go"
    walk_at "lb_if"
    refine ⟨_, _, _, rfl, vt, .inl rfl, .inl rfl, ?_⟩
    walk_at "lb_go"
    have raise1 : (∀ n, t = .int n → n = 0) → ∀ d, H d = none → E (.ref A.c_BadWindow) (some d) (upd H d (.xd [("part", .int 1)])) := fun hn d hd => kE 1 (by
      cases vt <;> simp [wp, h1s]
      simp [hn _ rfl]) d hd
    cases h1t : isI t .non .non
    · walk_at "lb_go"
      exact ⟨_, rfl, raise1 fun n e => by subst e; cases h1t⟩
    obtain ⟨n, rfl⟩ := isI_int h1t
    walk_at "lb_go"
    refine c_ifD (fun en => ?_) (fun en => ?_)
    · walk_at "lb_go"
      exact ⟨_, rfl, raise1 fun m e => by cases e; exact en⟩
    walk_at "lb_go"
    walk_at "lb_if"
    refine ⟨_, _, _, rfl, vc, .inr ⟨_, rfl⟩, .inl rfl, ?_⟩
    walk_at "lb_go"
    cases h1c : isI c (.int 0) .non
    · walk_at "lb_go"
      exact ⟨_, rfl, fun d hd => kE 2 (by simp [wp, h1s, h1c, en]) d hd⟩
    walk_at "lb_go"
    walk_at "lb_if"
    refine ⟨_, _, _, rfl, vz, .inr ⟨_, rfl⟩, .inr ⟨_, rfl⟩, ?_⟩
    walk_at "lb_go"
    have raise3 : (∀ m, z = .int m → m < 1 ∨ 4 < m ∨ m = 3 ∨ (if n < 0 then -n else n) < m) → ∀ d, H d = none → E (.ref A.c_BadWindow) (some d) (upd H d (.xd [("part", .int 3)])) := fun hn d hd => kE 3 (by
      cases vz <;> simp [wp, h1s, h1c, en]
      have := hn _ rfl
      omega) d hd
    cases h1z : isI z (.int 1) (.int 4)
    · walk_at "lb_go"
      exact ⟨_, rfl, raise3 fun m e => by subst e; simp [isI] at h1z; omega⟩
    obtain ⟨m, rfl⟩ := isI_int h1z
    have hm : 1 ≤ m ∧ m ≤ 4 := by simpa [isI] using h1z
    walk_at "lb_go"
    refine c_ifD (fun e3 => ?_) (fun e3 => ?_)
    · walk_at "lb_go"
      exact ⟨_, rfl, raise3 fun m' e => by cases e; exact .inr (.inr (.inl e3))⟩
    walk_at "lb_go"
    refine c_ifD (fun e4 => ?_) (fun e4 => ?_)
    · walk_at "lb_go"
      exact ⟨_, rfl, raise3 fun m' e => by cases e; exact .inr (.inr (.inr e4))⟩
    walk_at "lb_go"
    walk_at "lb_pf"
    exact kQ (by simp [wp, h1s, h1c, en]; omega)
theorem prod_le {x y : Int} {m n : Nat} (h1 : x.natAbs ≤ m) (h2 : y.natAbs ≤ n) : (x * y).natAbs ≤ m * n := by
  rw [Int.natAbs_mul]
  exact Nat.mul_le_mul h1 h2
theorem mulw {x y : Int} (h1 : x.natAbs ≤ 10 ^ 100) (h2 : y.natAbs ≤ 10 ^ 100) : CMulW x y :=
  wide_mul (a := 400) (b := 400) (Nat.lt_of_le_of_lt h1 (by decide)) (Nat.lt_of_le_of_lt h2 (by decide)) (by decide) (by decide) (by decide)
def absI (n : Int) : Int := if n < 0 then -n else n
def hitW (s t c b d : Int) : Bool := decide ((b - s - d) % absI t = 0) && (decide (0 ≤ (b - s - d).fdiv t) && decide ((b - s - d).fdiv t < c))
def inW (s t c z b : Int) : Bool := (List.range z.toNat).any fun (d : Nat) => hitW s t c b d
def inV (s t c z : Int) : V → Bool
  | .int b => inW s t c z b
  | _ => false
theorem any_no {n : Nat} {f : Nat → Bool} (h : ∀ i, i < n → f i = false) : (List.range n).any f = false := by
  rw [List.any_eq_false]
  intro x hx
  rw [h x (List.mem_range.mp hx)]; decide
theorem any_yes {n : Nat} {f : Nat → Bool} {i : Nat} (hi : i < n) (h : f i = true) : (List.range n).any f = true := List.any_eq_true.mpr ⟨i, List.mem_range.mpr hi, h⟩
def sp_Window___contains__ (K : PySem.W.Frag) (A : Ad) : Sp := fun vs H Q E => ∃ (p : Addr) (s t c z : Int) (v : V), vs = [.ref p, v] ∧ WinAt A H p s t c z ∧ SV H v ∧ t ≠ 0 ∧ t.natAbs ≤ 10 ^ 60 ∧ 1 ≤ z ∧ z ≤ 4 ∧ Q (.bl (inV s t c z v)) H
theorem sc_Window___contains__ : FnScope ["self", "place", "d", "distance"] ["self", "place"] (defScope s_Window___contains__) := ⟨rfl, rfl, rfl, by decide +kernel, rfl, by decide +kernel, by decide +kernel⟩
theorem ok_Window___contains__ (T : Txt P K mg A) : FnOk P w K mg base (L2.CX P w) 2 A.f_Window___contains__ A.d_Window___contains__ ["self", "place"] (sp_Window___contains__ K A) := by
  have G_is_integer : FnR P w K mg base (L2.CX P w) 1 A.f_is_integer (sp_is_integer K A) := FnOk.r0 (ok_is_integer T) T.b_is_integer
  refine T.F_Window___contains__.okX sc_Window___contains__ ?len (fun cdv Ar outer s H vs Q E hr h => ?_)
  case len => intro vs H Q E h; obtain ⟨_, _, _, _, _, _, rfl, _⟩ := h; rfl
  · refine ⟨_, ((pss_cons (ps_if (pt_not (pt_val (pe_callX G_is_integer (hr.mono (by decide)) rfl T.g_is_integer T.kp_is_integer (fun σ => passAt (takes_of rfl rfl rfl rfl) σ) (pa_cons (pv 1) (pa_cons pe_non (pa_cons pe_non pa_nil)))) (by intro _; rfl))) (pss_one (ps_ret pe_bl)) pss_nil)
      (pss_cons (ps_for (passes_of rfl) rfl (pi_range1 rfl T.z_range (pa_cons (pe_fld (pv 0) rfl) pa_nil)) (pg_name (i := 2) sc_Window___contains__.nd rfl (.inl rfl)) (pss_cons (ps_set (i := 3) sc_Window___contains__.nd rfl (.inl rfl) (pe_op op_subI (pe_op op_subI (pv 1) (pe_fld (pv 0) rfl)) (pv 2)))
      (pss_one (ps_if (PW.pt (pw_and (pt_cmpR (op_eqA (hr.units)) (pe_op op_modI (pv 3) (pe_callB call_absA (by rfl) T.z_abs (by decide +kernel) (pa_cons (pe_fld (pv 0) rfl) pa_nil))) pe_int (nomark _)) (pw_and1 (pt_chain op_leI op_ltI pe_int (pe_op op_fdivZ (pv 3) (pe_fld (pv 0) rfl)) (pe_fld (pv 0) rfl))))) (pss_one (ps_ret pe_bl)) pss_nil))))
      (pss_one (ps_ret pe_bl))))), ?_⟩
    try dsimp only [cxOf]
    obtain ⟨p, s, t, c, z, v, rfl, ⟨dx, hw⟩, vm, t0, tb, z1, z4, k⟩ := h
    refine c_start (σ' := [some _, some _, none, none]) (by rfl) ?_
    walk_at "lb_go"
    walk_at "lb_if"
    refine ⟨_, _, _, rfl, vm, .inl rfl, .inl rfl, ?_⟩
    walk_at "lb_go"
    cases h1 : isI v .non .non
    · walk_at "lb_go"
      have e : inV s t c z v = false := by cases v <;> first | rfl | cases h1
      rw [e] at k
      exact k
    obtain ⟨b, rfl⟩ := isI_int h1
    walk_at "lb_go"
    walk_at "lb_for"
    refine forR_of (by omega) (fun i σ H' => H' = H ∧ (∀ j, j < i → hitW s t c b (j : Nat) = false) ∧ ∃ x y, σ = [some (.ref p), some (.int b), x, y]) ⟨rfl, fun j hj => absurd hj (Nat.not_lt_zero _), _, _, rfl⟩ (fun i σ' H' hi => ?_) (fun σ' H' => ?_)
    · rintro ⟨eH, hno, x, y, rfl⟩
      subst eH
      have ha : 0 < (if t < 0 then -t else t) := by split <;> omega
      have no : hitW s t c b (i : Int) = false → ∀ j, j < i + 1 → hitW s t c b (j : Nat) = false := fun h j hj => by
        rcases Nat.lt_succ_iff_lt_or_eq.mp hj with q | q
        · exact hno j q
        · rw [q]; exact h
      walk_at "lb_go"
      walk_at "lb_if"
      refine c_ifD (fun e1 => ?_) (fun e1 => ?_)
      · walk_at "lb_go"
        refine c_ifD (fun e2 => ?_) (fun e2 => ?_)
        · walk_at "lb_go"
          refine c_ifD (fun e3 => ?_) (fun e3 => ?_)
          · walk_at "lb_go"
            have e : inV s t c z (.int b) = true := any_yes (i := i) (by omega) (by unfold hitW absI; rw [decide_eq_true e1, decide_eq_true e2, decide_eq_true e3]; rfl)
            rw [e] at k
            exact k
          · walk_at "lb_go"
            exact ⟨rfl, no (by unfold hitW; rw [decide_eq_false e3, Bool.and_false, Bool.and_false]), _, _, rfl⟩
        · walk_at "lb_go"
          exact ⟨rfl, no (by unfold hitW; rw [decide_eq_false e2, Bool.false_and, Bool.and_false]), _, _, rfl⟩
      · walk_at "lb_go"
        exact ⟨rfl, no (by unfold hitW absI; rw [decide_eq_false e1, Bool.false_and]), _, _, rfl⟩
    · rintro ⟨eH, hno, x, y, rfl⟩
      subst eH
      walk_at "lb_go"
      have e : inV s t c z (.int b) = false := any_no hno
      rw [e] at k
      exact k
def sp__law_number (K : PySem.W.Frag) (A : Ad) : Sp := fun vs H Q E => ∃ (a : Addr) (ns : List Int) (k : Int), vs = [.ref a, .int k] ∧ SqL K H a (ns.map V.int) ∧ 0 ≤ k ∧
  ∀ n : Int, -(10 ^ 40) ≤ n → n ≤ 10 ^ 40 → Q (.int n) H
theorem at_nat {ns : List Int} {k : Int} (h0 : 0 ≤ k) (h : k < ((ns.map V.int).length : Int)) : ∃ z, atI (ns.map V.int) k = some (.int z) := by
  obtain ⟨j, rfl⟩ : ∃ j : Nat, k = j := ⟨k.toNat, by omega⟩
  have hj : j < (ns.map V.int).length := by omega
  refine ⟨ns[j]'(by simpa using hj), ?_⟩
  exact atI_nat (by simp)
theorem sc__law_number : FnScope ["_law_script", "_law_k", "_law_cell"] ["_law_script", "_law_k"] (defScope s__law_number) := ⟨rfl, rfl, rfl, by decide +kernel, rfl, by decide +kernel, by decide +kernel⟩
theorem ok__law_number (T : Txt P K mg A) : FnOk P w K mg base (L2.CX P w) 1 A.f__law_number A.d__law_number ["_law_script", "_law_k"] (sp__law_number K A) := by
  refine T.F__law_number.okX sc__law_number ?len (fun cdv Ar outer s H vs Q E hr h => ?_)
  case len => intro vs H Q E h; obtain ⟨_, _, _, rfl, _⟩ := h; rfl
  · refine ⟨_, ((pss_cons (ps_set (i := 2) sc__law_number.nd rfl (.inl rfl) pe_int)
      (pss_cons (ps_if (pt_cmpR op_ltI (pv 1) (pe_callB call_lenA (by rfl) T.z_len (by decide +kernel) (pa_cons (pv 0) pa_nil)) (nomark _)) (pss_one (ps_set (i := 2) sc__law_number.nd rfl (.inl rfl) (pe_ix ix_seq (pv 0) (pv 1) (fun _ _ => rfl)))) pss_nil)
      (pss_one (ps_ret (pe_op op_subI (pe_op op_modI (pe_callTy call_intA (by rfl) T.z_int (by decide +kernel) (pa_cons (pv 2) pa_nil)) (pe_op op_addA (pe_op op_mulA pe_int (pe_op op_powI pe_int pe_int)) pe_int)) (pe_op op_powI pe_int pe_int))))))), ?_⟩
    try dsimp only [cxOf]
    obtain ⟨a, ns, i, rfl, hS, h0, k⟩ := h
    refine c_start (σ' := [some _, some _, none]) (by rfl) ?_
    walk_at "lb_go"
    walk_at "lb_if"
    refine c_ifD (fun e1 => ?_) (fun e1 => ?_)
    · obtain ⟨z, hz⟩ := at_nat h0 e1
      walk_at "lb_go"
      refine k _ ?_ ?_ <;> omega
    · walk_at "lb_go"
      refine k _ ?_ ?_ <;> omega
/-- the state of the draws: its list, at most n draws so far -/
def StAt (H : Hp) (st : Addr) (n : Int) : Prop := ∃ a b c : Int, H st = some (.lst [.int a, .int b, .int c]) ∧ 0 ≤ a ∧ 0 ≤ b ∧ b < 2 ^ 31 ∧ 0 ≤ c ∧ c ≤ n
theorem StAt.same {H H' : Hp} {st : Addr} {n : Int} (s : Same H H') (h : StAt H st n) : StAt H' st n := let ⟨a, b, c, e, q⟩ := h; ⟨a, b, c, s _ _ e, q⟩
theorem StAt.kp {S : List Addr} {H H' : Hp} {st : Addr} {n : Int} (s : Kp S H H') (hn : st ∉ S) (h : StAt H st n) : StAt H' st n := let ⟨a, b, c, e, q⟩ := h; ⟨a, b, c, s _ _ hn e, q⟩
def sp__law_state (K : PySem.W.Frag) (A : Ad) : Sp := fun vs H Q E => ∃ (a : Addr) (ns : List Int) (k : Int), vs = [.ref a, .int k] ∧ SqL K H a (ns.map V.int) ∧ 0 ≤ k ∧ k ≤ 1000 ∧
  ∀ st H', H st = none → Same H H' → StAt H' st 0 → Q (.ref st) H'
theorem law_state_fin {H : Hp} {p q : Addr} {n s : Int} (hp : H p = none) (hq : upd H p (.lst [.int 0, .int n]) q = none) (h0 : 0 ≤ n) : H q = none ∧ Same H (upd (upd H p (.lst [.int 0, .int n])) q (.lst [.int n, .int (s % 2147483647), .int 0])) ∧ StAt (upd (upd H p (.lst [.int 0, .int n])) q (.lst [.int n, .int (s % 2147483647), .int 0])) q 0 := by
  have hqp : q ≠ p := fun z => by rw [z, upd_same] at hq; cases hq
  rw [upd_ne hqp] at hq
  exact ⟨hq, Same.upd (Same.new hp) hq, n, s % 2147483647, 0, upd_same, h0, by omega, by omega, by omega, by omega⟩
theorem law_state_fin0 {H : Hp} {p q : Addr} {n s : Int} (hp : H p = none) (hq : upd H p (.lst [.int 0, .int n]) q = none) : H q = none ∧ Same H (upd (upd H p (.lst [.int 0, .int n])) q (.lst [.int 0, .int (s % 2147483647), .int 0])) ∧ StAt (upd (upd H p (.lst [.int 0, .int n])) q (.lst [.int 0, .int (s % 2147483647), .int 0])) q 0 := by
  have hqp : q ≠ p := fun z => by rw [z, upd_same] at hq; cases hq
  rw [upd_ne hqp] at hq
  exact ⟨hq, Same.upd (Same.new hp) hq, 0, s % 2147483647, 0, upd_same, by omega, by omega, by omega, by omega, by omega⟩
theorem sc__law_state : FnScope ["_law_script", "_law_k", "_law_cell"] ["_law_script", "_law_k"] (defScope s__law_state) := ⟨rfl, rfl, rfl, by decide +kernel, rfl, by decide +kernel, by decide +kernel⟩
theorem ok__law_state (T : Txt P K mg A) : FnOk P w K mg base (L2.CX P w) 1 A.f__law_state A.d__law_state ["_law_script", "_law_k"] (sp__law_state K A) := by
  refine T.F__law_state.okX sc__law_state ?len (fun cdv Ar outer s H vs Q E hr h => ?_)
  case len => intro vs H Q E h; obtain ⟨_, _, _, rfl, _⟩ := h; rfl
  · refine ⟨_, ((pss_cons (ps_set (i := 2) sc__law_state.nd rfl (.inl rfl) pe_int)
      (pss_cons (ps_if (pt_cmpR op_ltI (pv 1) (pe_callB call_lenA (by rfl) T.z_len (by decide +kernel) (pa_cons (pv 0) pa_nil)) (nomark _)) (pss_one (ps_set (i := 2) sc__law_state.nd rfl (.inl rfl) (pe_ix ix_seq (pv 0) (pv 1) (fun _ _ => rfl)))) pss_nil)
      (pss_one (ps_ret (pe_lst (pa_cons (pe_ix ix_seq (pe_lst (pa_cons pe_int (pa_cons (pv 2) pa_nil))) (pe_callTy call_intA (by rfl) T.z_int (by decide +kernel) (pa_cons (pe_cmpR op_geI (pv 2) (pe_op op_powI pe_int pe_int) (nomark _)) pa_nil)) (fun _ _ => rfl)) (pa_cons (pe_op op_modI (pe_callTy call_intA (by rfl) T.z_int (by decide +kernel) (pa_cons (pe_op op_addA (pe_op op_addA (pv 2) (pe_op op_mulA pe_int (pv 1))) pe_int) pa_nil)) pe_int) (pa_cons pe_int pa_nil))))))))), ?_⟩
    try dsimp only [cxOf]
    obtain ⟨a, ns, i, rfl, hS, h0, hi, k⟩ := h
    refine c_start (σ' := [some _, some _, none]) (by rfl) ?_
    walk_at "lb_go"
    (with_reducible refine c_cut (fun σ H' => H' = H ∧ ∃ z : Int, σ = [some (.ref a), some (.int i), some (.int z)]) (fun σ H' => ?_) fun N hN => ?_)
    rotate_left
    · walk_at "lb_if"
      refine c_ifD (fun e1 => ?_) (fun e1 => ?_)
      · obtain ⟨z, hz⟩ := at_nat h0 e1
        walk_at "lb_go"
        exact hN _ _ ⟨rfl, z, rfl⟩
      · walk_at "lb_go"
        exact hN _ _ ⟨rfl, 0, rfl⟩
    rintro ⟨eH, z, rfl⟩
    subst eH
    walk_at "lb_go"
    refine c_sz (by simp) fun p hp => ?_
    walk_at "lb_go"
    refine c_ixIf (fun hz => ?_) (fun hz => ?_)
    · have hz := of_decide_eq_true hz
      walk_at "lb_go"
      refine c_sz (by simp) fun q hq => ?_
      obtain ⟨r1, r2, r3⟩ := law_state_fin (n := z) (s := z + 7919 * i + 1) hp hq (by omega)
      exact k q _ r1 r2 r3
    · walk_at "lb_go"
      refine c_sz (by simp) fun q hq => ?_
      obtain ⟨r1, r2, r3⟩ := law_state_fin0 (n := z) (s := z + 7919 * i + 1) hp hq
      exact k q _ r1 r2 r3
/-- a draw below many: the state alone is changed -/
def drawn (H : Hp) (st : Addr) (n many : Int) (R : V → Hp → Prop) : Prop := ∀ (r : Int) (H' : Hp), 0 ≤ r → r < many → StAt H' st (n + 1) → Kp [st] H H' → (∀ b, b ≠ st → H' b = H b) → R (.int r) H'
def sp__law_pick (K : PySem.W.Frag) (A : Ad) : Sp := fun vs H Q E => ∃ (st : Addr) (n many : Int), vs = [.ref st, .int many] ∧ StAt H st n ∧ 0 ≤ n ∧ n ≤ 1000000 ∧ 0 < many ∧ many ≤ 10 ^ 50 ∧ drawn H st n many Q
theorem sc__law_pick : FnScope ["_law_state_here", "_law_many", "_law_digit", "_law_turn", "_law_mixed"] ["_law_state_here", "_law_many"] (defScope s__law_pick) := ⟨rfl, rfl, rfl, by decide +kernel, rfl, by decide +kernel, by decide +kernel⟩
theorem ok__law_pick (T : Txt P K mg A) : FnOk P w K mg base (L2.CX P w) 1 A.f__law_pick A.d__law_pick ["_law_state_here", "_law_many"] (sp__law_pick K A) := by
  refine T.F__law_pick.okX sc__law_pick ?len (fun cdv Ar outer s H vs Q E hr h => ?_)
  case len => intro vs H Q E h; obtain ⟨_, _, _, rfl, _⟩ := h; rfl
  · refine ⟨_, ((pss_cons (ps_if (pt_cmpR op_gtI (pe_ix ix_seq (pv 0) pe_int (fun _ _ => rfl)) pe_int (nomark _)) (pss_cons (ps_set (i := 2) sc__law_pick.nd rfl (.inl rfl) (pe_op op_modI (pe_callTy call_intA (by rfl) T.z_int (by decide +kernel) (pa_cons (pe_ix ix_seq (pv 0) pe_int (fun _ _ => rfl)) pa_nil)) (pv 1)))
      (pss_cons (ps_asg (pe_op op_div (pe_ix ix_seq (pv 0) pe_int (fun _ _ => rfl)) (pv 1)) (pg_sub (pv 0) pe_int set_list))
      (pss_one (ps_ret (pv 2))))) pss_nil)
      (pss_cons (ps_set (i := 3) sc__law_pick.nd rfl (.inl rfl) (pe_op op_addA (pe_ix ix_seq (pv 0) pe_int (fun _ _ => rfl)) pe_int))
      (pss_cons (ps_asg (pv 3) (pg_sub (pv 0) pe_int set_list))
      (pss_cons (ps_set (i := 4) sc__law_pick.nd rfl (.inl rfl) (pe_op op_modI (pe_callTy call_intA (by rfl) T.z_int (by decide +kernel) (pa_cons (pe_op op_addA (pe_op op_addA (pe_op op_mulA (pe_ix ix_seq (pv 0) pe_int (fun _ _ => rfl)) pe_int) (pe_op op_mulA (pe_op op_mulA (pv 3) (pv 3)) pe_int)) pe_int) pa_nil)) pe_int))
      (pss_cons (ps_set (i := 4) sc__law_pick.nd rfl (.inl rfl) (pe_op op_modI (pe_callTy call_intA (by rfl) T.z_int (by decide +kernel) (pa_cons (pe_op op_mulA (pv 4) (pe_op op_addA (pe_op op_div (pv 4) pe_int) pe_int)) pa_nil)) pe_int))
      (pss_cons (ps_set (i := 4) sc__law_pick.nd rfl (.inl rfl) (pe_op op_modI (pe_callTy call_intA (by rfl) T.z_int (by decide +kernel) (pa_cons (pe_op op_mulA (pv 4) (pe_op op_addA (pe_op op_div (pv 4) pe_int) pe_int)) pa_nil)) pe_int))
      (pss_one (ps_ret (pe_op op_modI (pe_op op_div (pv 4) pe_int) (pv 1))))))))))), ?_⟩
    try dsimp only [cxOf]
    obtain ⟨st, n, many, rfl, ⟨a, b, c, h1, a0, b0, b1, c0, c1⟩, n0, n1, m0, m1, k⟩ := h
    refine c_start (σ' := [some _, some _, none, none, none]) (by rfl) ?_
    walk_at "lb_go"
    walk_at "lb_if"
    refine c_ifD (fun e1 => ?_) (fun e1 => ?_)
    · walk_at "lb_go"
      refine k _ _ (Int.emod_nonneg a (by omega)) (Int.emod_lt_of_pos a m0) ⟨_, _, _, upd_same, Int.ediv_nonneg a0 (by omega), b0, b1, c0, by omega⟩ Kp.upd (fun b hb => upd_ne hb)
    · have q1 : CMulW (c + 1) (c + 1) := wide_mul (a := 40) (b := 40) (by omega) (by omega) (by decide) (by decide) (by decide)
      have q2 : CMulW ((c + 1) * (c + 1)) 16811 := by
        have := wide_lt (i := c + 1) (j := c + 1) (a := 40) (b := 40) (by omega) (by omega)
        exact wide_mul (a := 80) (b := 40) this (by omega) (by decide) (by decide) (by decide)
      walk_at "lb_one"
      walk_at "lb_st"
      walk_at "lb_st"
      walk_at "lb_st"
      generalize hx : (b * 48271 + (c + 1) * (c + 1) * 16811 + 11) % 2147483647 = x1
      have x1b : 0 ≤ x1 ∧ x1 < 2147483647 := by omega
      walk_at "lb_st"
      generalize hx2 : x1 * (x1 / 1009 + 69621) % 2147483629 = x2
      have x2b : 0 ≤ x2 ∧ x2 < 2147483629 := by omega
      walk_at "lb_st"
      generalize hx3 : x2 * (x2 / 2003 + 40692) % 2147483587 = x3
      walk_at "lb_st"
      refine k _ _ (Int.emod_nonneg _ (by omega)) (Int.emod_lt_of_pos _ m0) ⟨_, _, _, upd_same, a0, b0, b1, by omega, by omega⟩ Kp.upd (fun b hb => upd_ne hb)
theorem StAt.mono {H : Hp} {st : Addr} {n m : Int} (h : StAt H st n) (l : n ≤ m) : StAt H st m := let ⟨a, b, c, e, a0, b0, b1, c0, c1⟩ := h; ⟨a, b, c, e, a0, b0, b1, c0, Int.le_trans c1 l⟩
theorem StAt.ne_none {H : Hp} {st p : Addr} {n : Int} (t : StAt H st n) (h : H p = none) : p ≠ st := fun q => by
  obtain ⟨_, _, _, e, _⟩ := t
  rw [← q, h] at e; cases e
theorem StAt.ne_ins {H : Hp} {st p C dx : Addr} {fs : List (Str × V)} {n : Int} (t : StAt H st n) (h : H p = some (.ins C dx fs)) : p ≠ st := fun q => by
  obtain ⟨_, _, _, e, _⟩ := t
  rw [← q, h] at e; cases e
theorem StAt.ne_tup {H : Hp} {st p : Addr} {xs : List V} {n : Int} (t : StAt H st n) (h : H p = some (.tup xs)) : p ≠ st := fun q => by
  obtain ⟨_, _, _, e, _⟩ := t
  rw [← q, h] at e; cases e
theorem len_ok {xs : List V} (h : xs.length ≤ 1000) : xs.length ≤ sizeLine := Nat.le_trans h (by rw [sizeLine_eq]; exact (by decide : 1000 ≤ 16777216))
/-- [..][pick] -/
theorem c_drawV {K : PySem.W.Frag} {A : Ad} {E : L2.St → XK} {xs : List V} {σ : L2.St} {H : Hp} {st : Addr} {i : Nat} {n m : Int} {R : VK} (hv : σ[i]? = some (some (.ref st))) (t : StAt H st n) (n0 : 0 ≤ n) (n1 : n ≤ 1000000) (hl : (xs.length : Int) = m) (hp : 0 < m ∧ m ≤ 1000)
    (q : ∀ v H', v ∈ xs → Kp [st] H H' → StAt H' st (n + 1) → R v H') : xs.length ≤ sizeLine ∧ ∀ p, H p = none → tCallX (sp__law_pick K A) E (tCons (tVar i) (tCons (tC (.int m)) tNil)) σ (upd H p (.lst xs)) (fun y H2 => rIx K (.ref p) y H2 R) := by
  refine ⟨len_ok (by omega), fun p np => ?_⟩
  refine c_callX (c_cons (c_var hv (c_cons (c_c (c_nil ?_)))))
  refine ⟨st, _, _, rfl, t.same (Same.new np), n0, n1, hp.1, Int.le_trans hp.2 (by decide), fun r H' r0 r1 t' k' o' => ?_⟩
  obtain ⟨v, hv, hat⟩ := atI_in (xs := xs) r0 (by omega)
  have e : H' p = some (.lst xs) := k' _ _ (by simpa using t.ne_none np) upd_same
  refine c_ixL (SqL.of e) hat (q v H' hv (fun b u nb e => k' _ _ nb ?_) t')
  rw [upd_ne (ne_of_none e np)]; exact e
theorem c_draw {K : PySem.W.Frag} {A : Ad} {E : L2.St → XK} {xs : List V} {ns : List Int} {σ : L2.St} {H : Hp} {st : Addr} {i : Nat} {n m : Int} {R : VK} (hx : xs = ns.map V.int) (hv : σ[i]? = some (some (.ref st))) (t : StAt H st n) (n0 : 0 ≤ n) (n1 : n ≤ 1000000) (hl : (ns.length : Int) = m) (hp : 0 < m ∧ m ≤ 1000)
    (q : ∀ z H', z ∈ ns → Kp [st] H H' → StAt H' st (n + 1) → R (.int z) H') : xs.length ≤ sizeLine ∧ ∀ p, H p = none → tCallX (sp__law_pick K A) E (tCons (tVar i) (tCons (tC (.int m)) tNil)) σ (upd H p (.lst xs)) (fun y H2 => rIx K (.ref p) y H2 R) := by
  subst hx
  refine c_drawV hv t n0 n1 (by simpa using hl) hp fun v H' hm k' t' => ?_
  obtain ⟨z, hz, rfl⟩ := List.mem_map.mp hm
  exact q z H' hz k' t'
/-- pick(m) -/
theorem c_pick {K : PySem.W.Frag} {A : Ad} {E : XK} {H : Hp} {st : Addr} {n m : Int} {R : VK} (t : StAt H st n) (n0 : 0 ≤ n) (n1 : n ≤ 1000000) (hp : 0 < m ∧ m ≤ 10 ^ 50)
    (q : ∀ r H', 0 ≤ r → r < m → Kp [st] H H' → StAt H' st (n + 1) → R (.int r) H') : sp__law_pick K A [.ref st, .int m] H R E :=
  ⟨st, _, _, rfl, t, n0, n1, hp.1, hp.2, fun r H' r0 r1 t' k' _ => q r H' r0 r1 k' t'⟩
theorem wp_int {s t c z : Int} (t0 : t ≠ 0) (c0 : 0 ≤ c) (hz : z = 1 ∨ z = 2 ∨ z = 4) (ht : z ≤ (t.natAbs : Int)) : wp (.int s) (.int t) (.int c) (.int z) = none := by
  have h1 : isI (.int s) .non .non = true := rfl
  have h2 : isI (.int c) (.int 0) .non = true := by show (decide (0 ≤ c) && true) = true; rw [decide_eq_true c0]; rfl
  simp only [wp, h1, h2, if_true, if_neg t0]
  rw [if_neg]
  split <;> omega
/-- Window(s, t, c, z) of right numbers -/
theorem mk_window {K : PySem.W.Frag} {A : Ad} {H : Hp} {R : Addr → Hp → Prop} {E : XK} {s t c z : Int} (t0 : t ≠ 0) (c0 : 0 ≤ c) (hz : z = 1 ∨ z = 2 ∨ z = 4) (ht : z ≤ (t.natAbs : Int)) (h : ∀ p H', Same H H' → WinAt A H' p s t c z → R p H') : ∀ x dx, H x = none → H dx = none → dx ≠ x →
    sp_Window___init__ K A (.ref x :: [.int s, .int t, .int c, .int z]) (upd (upd H dx (.own x)) x (.ins A.c_Window dx [])) (fun v H2 => v = .non ∧ R x H2) E := by
  intro x dx n1 n2 n3
  refine ⟨x, dx, _, _, _, _, rfl, .int _, .int _, .int _, .int _, upd_same, fun k hk => (by rw [wp_int t0 c0 hz ht] at hk; cases hk), fun _ => ⟨rfl, h x _ (Same.upd (Same.mk n1 n2) n1) ⟨dx, upd_same⟩⟩⟩
theorem kpx {S : List Addr} {H H1 H' : Hp} (h : Kp S H H1) (s : Kp S H1 H') : Kp S H H' := kp_kp h s (fun _ h => h)
/-! the plain law of k06: Euclid, the least shared number of two progressions -/
/-- x A = a and y A = b modulo B; a, b with the divisors of A, B; sizes by signs -/
structure EI (A B a b x y : Int) : Prop where
  a0 : 0 < a
  b0 : 0 ≤ b
  ea : ∃ u, x * A = a + u * B
  eb : ∃ v, y * A = b + v * B
  dv : ∀ g, g ∣ a → g ∣ b → g ∣ A ∧ g ∣ B
  sz : ∃ p q, 0 ≤ p ∧ p ≤ B ∧ 0 ≤ q ∧ a * q + b * p = B ∧ ((x = p ∧ y = -q) ∨ (x = -p ∧ y = q))
theorem EI.start {A B : Int} (a0 : 0 < A) (b0 : 0 < B) : EI A B A B 1 0 :=
  ⟨a0, by omega, ⟨0, by omega⟩, ⟨-1, by omega⟩, fun g h1 h2 => ⟨h1, h2⟩, ⟨1, 0, by omega, by omega, by omega, by omega, .inl ⟨rfl, rfl⟩⟩⟩
theorem EI.step {A B a b x y : Int} (h : EI A B a b x y) (hb : b ≠ 0) : EI A B b (a - a / b * b) y (x - a / b * y) := by
  obtain ⟨a0, b0, ⟨u, hu⟩, ⟨v, hv⟩, dv, ⟨p, q, p0, pB, q0, e, s⟩⟩ := h
  have hb0 : 0 < b := by omega
  have hd := Int.mul_ediv_add_emod a b
  have h2 := Int.emod_nonneg a hb
  have hq : 0 ≤ a / b := Int.ediv_nonneg (by omega) b0
  generalize a / b = k at hd hq ⊢
  have er : a - k * b = a % b := by rw [Int.mul_comm k b]; omega
  have hqB : q ≤ B := by
    have h1 : 0 ≤ (a - 1) * q := Int.mul_nonneg (by omega) q0
    have h2 : 0 ≤ b * p := Int.mul_nonneg b0 p0
    have h3 : (a - 1) * q = a * q - q := by rw [Int.sub_mul]; omega
    omega
  refine ⟨hb0, by omega, ⟨v, hv⟩, ⟨u - k * v, ?_⟩, fun g h1 h2 => ?_, ⟨q, p + k * q, q0, hqB, Int.add_nonneg p0 (Int.mul_nonneg hq q0), ?_, ?_⟩⟩
  · rw [Int.sub_mul, Int.sub_mul, hu, Int.mul_assoc, hv, Int.mul_add, Int.mul_assoc]; omega
  · refine dv g ?_ h1
    have := Int.dvd_add h2 (show g ∣ k * b from Int.dvd_mul_of_dvd_right h1)
    rwa [show a - k * b + k * b = a by omega] at this
  · have e1 : b * (p + k * q) = b * p + k * b * q := by rw [Int.mul_add, ← Int.mul_assoc, Int.mul_comm b k]
    have e2 : (a - k * b) * q = a * q - k * b * q := Int.sub_mul ..
    omega
  · rcases s with ⟨rfl, rfl⟩ | ⟨rfl, rfl⟩
    · refine .inr ⟨rfl, ?_⟩
      rw [Int.mul_neg]; omega
    · refine .inl ⟨rfl, ?_⟩
      omega
theorem EI.sizes {A B a b x y : Int} (h : EI A B a b x y) : x.natAbs ≤ B.natAbs ∧ y.natAbs ≤ B.natAbs ∧ a ≤ B + A ∨ True := .inr trivial
theorem EI.bx {A B a b x y : Int} (h : EI A B a b x y) : x.natAbs ≤ B.natAbs := by
  obtain ⟨a0, b0, _, _, dv, ⟨p, q, p0, pB, q0, e, s⟩⟩ := h
  omega
theorem EI.by_ {A B a b x y : Int} (h : EI A B a b x y) : y.natAbs ≤ B.natAbs := by
  obtain ⟨a0, b0, _, _, dv, ⟨p, q, p0, pB, q0, e, s⟩⟩ := h
  have h1 : 0 ≤ (a - 1) * q := Int.mul_nonneg (by omega) q0
  have h2 : 0 ≤ b * p := Int.mul_nonneg b0 p0
  have h3 : (a - 1) * q = a * q - q := by rw [Int.sub_mul]; omega
  omega
/-- what stands behind the loop -/
structure Bez (A B g x : Int) : Prop where
  g0 : 0 < g
  gA : g ∣ A
  gB : g ∣ B
  e : ∃ u, x * A = g + u * B
  bx : x.natAbs ≤ B.natAbs
theorem EI.end {A B a x y : Int} (h : EI A B a 0 x y) : Bez A B a x :=
  ⟨h.a0, (h.dv a (Int.dvd_refl a) (Int.dvd_zero a)).1, (h.dv a (Int.dvd_refl a) (Int.dvd_zero a)).2, h.ea, h.bx⟩
/-- a number of both progressions within their ends -/
def Sh (l s h l' s' h' x : Int) : Prop := l ≤ x ∧ l' ≤ x ∧ x ≤ h ∧ x ≤ h' ∧ s ∣ x - l ∧ s' ∣ x - l'
/-- the least number with S, if there is one -/
def Best (S : Int → Prop) : Option Int → Prop
  | none => ∀ x, ¬ S x
  | some m => S m ∧ ∀ x, S x → m ≤ x
theorem Best.uniq {S S' : Int → Prop} {r r' : Option Int} (e : ∀ x, S x ↔ S' x) (h : Best S r) (h' : Best S' r') : r = r' := by
  cases r with
  | none =>
    cases r' with
    | none => rfl
    | some m => exact absurd ((e m).mpr h'.1) (h m)
  | some m =>
    cases r' with
    | none => exact absurd ((e m).mp h.1) (h' m)
    | some m' =>
      have h1 := h.2 m' ((e m').mpr h'.1)
      have h2 := h'.2 m ((e m).mp h.1)
      exact congrArg some (by omega)
theorem Best.none_of {S : Int → Prop} {r : Option Int} (h : Best S r) (n : ∀ x, ¬ S x) : r = none := by
  cases r with
  | none => rfl
  | some m => exact absurd h.1 (n m)
theorem no_shared {A B g x l l' h h' : Int} (z : Bez A B g x) (hd : (l' - l) % g ≠ 0) : ∀ x, ¬ Sh l A h l' B h' x := by
  rintro y ⟨_, _, _, _, d1, d2⟩
  apply hd
  have h1 := Int.dvd_trans z.gA d1
  have h2 := Int.dvd_trans z.gB d2
  have h3 := Int.dvd_sub h1 h2
  rw [show y - l - (y - l') = l' - l by omega] at h3
  exact Int.emod_eq_zero_of_dvd h3
theorem dvd_period {A B g x z : Int} (b : Bez A B g x) (hB : B ≠ 0) (h1 : A ∣ z) (h2 : B ∣ z) : A / g * B ∣ z := by
  obtain ⟨g0, ⟨A', rfl⟩, ⟨B', rfl⟩, ⟨u, e⟩, _⟩ := b
  obtain ⟨i, rfl⟩ := h1
  have g1 : g ≠ 0 := by omega
  rw [Int.mul_ediv_cancel_left _ g1]
  have h3 : g * B' ∣ g * i := by
    have h4 : g * B' ∣ x * (g * A' * i) := Int.dvd_mul_of_dvd_right h2
    rw [← Int.mul_assoc x, e, Int.add_mul] at h4
    have h5 : g * B' ∣ u * (g * B') * i := by
      rw [Int.mul_assoc]
      exact Int.dvd_mul_of_dvd_right (Int.dvd_mul_right _ _)
    exact (Int.dvd_iff_dvd_of_dvd_add h4).mpr h5
  obtain ⟨j, hj⟩ := Int.dvd_of_mul_dvd_mul_left g1 h3
  subst hj
  exact ⟨j, by rw [Int.mul_comm g A', Int.mul_assoc, Int.mul_assoc, Int.mul_assoc]⟩
/-- the found number belongs to both -/
theorem found_both {A B g x l l' : Int} (b : Bez A B g x) (hd : (l' - l) % g = 0) : A ∣ (l + (l' - l) / g * x % (B / g) * A) - l ∧ B ∣ (l + (l' - l) / g * x % (B / g) * A) - l' := by
  obtain ⟨g0, ⟨A', rfl⟩, ⟨B', rfl⟩, ⟨u, e⟩, _⟩ := b
  have g1 : g ≠ 0 := by omega
  rw [Int.mul_ediv_cancel_left _ g1]
  have hD := Int.mul_ediv_add_emod (l' - l) g
  rw [hd] at hD
  generalize (l' - l) / g = d at hD ⊢
  refine ⟨⟨d * x % B', by rw [Int.mul_comm]; omega⟩, ?_⟩
  have hm := Int.mul_ediv_add_emod (d * x) B'
  generalize d * x / B' = w at hm
  generalize d * x % B' = k at hm ⊢
  have hk : k = d * x - B' * w := by omega
  have e1 : k * (g * A') = d * g + (d * u - A' * w) * (g * B') := by
    rw [hk, Int.sub_mul, Int.mul_assoc d x, e, Int.mul_add, Int.sub_mul]
    have a1 : B' * w * (g * A') = A' * w * (g * B') := by
      rw [Int.mul_comm B' w, Int.mul_assoc, Int.mul_comm A' w, Int.mul_assoc w A']
      congr 1
      rw [← Int.mul_assoc, Int.mul_comm B' g, Int.mul_assoc, Int.mul_comm B' A', ← Int.mul_assoc, Int.mul_comm g A', Int.mul_assoc]
    rw [a1, Int.mul_assoc d u]; omega
  refine ⟨d * u - A' * w, ?_⟩
  rw [e1, Int.mul_comm (g * B')]
  have : d * g = g * d := Int.mul_comm ..
  omega
theorem period_both {A B g : Int} (g0 : g ≠ 0) (gA : g ∣ A) (gB : g ∣ B) : A ∣ A / g * B ∧ B ∣ A / g * B := by
  obtain ⟨A', rfl⟩ := gA
  obtain ⟨B', rfl⟩ := gB
  rw [Int.mul_ediv_cancel_left _ g0]
  exact ⟨⟨B', by rw [Int.mul_comm g A', Int.mul_assoc]⟩, ⟨A', by rw [Int.mul_comm]⟩⟩
/-- moved by periods to the first place from the bottom on -/
def moved (f bo P : Int) : Int := if f < bo then f + (bo - f + P - 1) / P * P else f - (f - bo) / P * P
theorem moved_ok {f bo P : Int} (hP : 0 < P) : bo ≤ moved f bo P ∧ moved f bo P < bo + P ∧ P ∣ moved f bo P - f := by
  unfold moved
  split
  · rename_i h
    have h1 := Int.mul_ediv_add_emod (bo - f + P - 1) P
    have h2 := Int.emod_nonneg (bo - f + P - 1) (show P ≠ 0 by omega)
    have h3 := Int.emod_lt_of_pos (bo - f + P - 1) hP
    generalize (bo - f + P - 1) / P = k at h1 ⊢
    have e : k * P = P * k := Int.mul_comm ..
    exact ⟨by omega, by omega, ⟨k, by omega⟩⟩
  · rename_i h
    have h1 := Int.mul_ediv_add_emod (f - bo) P
    have h2 := Int.emod_nonneg (f - bo) (show P ≠ 0 by omega)
    have h3 := Int.emod_lt_of_pos (f - bo) hP
    generalize (f - bo) / P = k at h1 ⊢
    have e : k * P = P * k := Int.mul_comm ..
    exact ⟨by omega, by omega, ⟨-k, by rw [Int.mul_neg]; omega⟩⟩
theorem period_pos {A B g x : Int} (b : Bez A B g x) (hA : 0 < A) (hB : 0 < B) : 0 < A / g * B := by
  obtain ⟨g0, ⟨A', rfl⟩, _, _, _⟩ := b
  rw [Int.mul_ediv_cancel_left _ (by omega)]
  refine Int.mul_pos ?_ hB
  by_cases z : 0 < A'
  · exact z
  · exfalso
    have := Int.mul_nonneg (show 0 ≤ g by omega) (show 0 ≤ -A' by omega)
    rw [Int.mul_neg] at this
    omega
theorem best_found {A B g x l l' h h' f bo : Int} (b : Bez A B g x) (hA : 0 < A) (hB : 0 < B) (f1 : A ∣ f - l) (f2 : B ∣ f - l') (hbo : bo = max l l') :
    Best (Sh l A h l' B h') (if moved f bo (A / g * B) > min h h' then none else some (moved f bo (A / g * B))) := by
  have hP := period_pos b hA hB
  obtain ⟨m1, m2, m3⟩ := moved_ok (f := f) (bo := bo) hP
  obtain ⟨p1, p2⟩ := period_both (by have := b.g0; omega) b.gA b.gB
  generalize hM : moved f bo (A / g * B) = M at m1 m2 m3 ⊢
  have M1 : A ∣ M - l := by
    have := Int.dvd_add (Int.dvd_trans p1 m3) f1
    rwa [show M - f + (f - l) = M - l by omega] at this
  have M2 : B ∣ M - l' := by
    have := Int.dvd_add (Int.dvd_trans p2 m3) f2
    rwa [show M - f + (f - l') = M - l' by omega] at this
  have least : ∀ y, l ≤ y → l' ≤ y → A ∣ y - l → B ∣ y - l' → M ≤ y := fun y y1 y2 d1 d2 => by
    have e1 := Int.dvd_sub d1 M1
    have e2 := Int.dvd_sub d2 M2
    rw [show y - l - (M - l) = y - M by omega] at e1
    rw [show y - l' - (M - l') = y - M by omega] at e2
    obtain ⟨j, hj⟩ := dvd_period b (by omega) e1 e2
    by_cases z : M ≤ y
    · exact z
    · exfalso
      have : A / g * B * j ≤ A / g * B * (-1) := by
        refine Int.mul_le_mul_of_nonneg_left ?_ (by omega)
        by_cases w : j ≤ -1
        · exact w
        · exfalso
          have := Int.mul_nonneg (show 0 ≤ A / g * B by omega) (show 0 ≤ j by omega)
          omega
      omega
  split
  · rename_i hh
    rintro y ⟨y1, y2, y3, y4, d1, d2⟩
    have := least y y1 y2 d1 d2
    omega
  · rename_i hh
    refine ⟨⟨by omega, by omega, by omega, by omega, M1, M2⟩, fun y ⟨y1, y2, y3, y4, d1, d2⟩ => least y y1 y2 d1 d2⟩
def optV : Option Int → V
  | none => .non
  | some k => .int k
def sp_shared_number (K : PySem.W.Frag) (A : Ad) : Sp := fun vs H Q E => ∃ (l s h l' s' h' : Int), vs = [.int l, .int s, .int h, .int l', .int s', .int h'] ∧ 0 < s ∧ 0 < s' ∧ s.natAbs ≤ 10 ^ 40 ∧ s'.natAbs ≤ 10 ^ 40 ∧ l.natAbs ≤ 10 ^ 60 ∧ l'.natAbs ≤ 10 ^ 60 ∧
  ∀ r H', Same H H' → Best (Sh l s h l' s' h') r → Q (optV r) H'
theorem sc_shared_number : FnScope ["low", "step", "high", "other_low", "other_step", "other_high", "a", "b", "x", "y", "quotient", "distance", "period", "found", "bottom"] ["low", "step", "high", "other_low", "other_step", "other_high"] (defScope s_shared_number) := ⟨rfl, rfl, rfl, by decide +kernel, rfl, by decide +kernel, by decide +kernel⟩
theorem ok_shared_number (T : Txt P K mg A) : FnOk P w K mg base (L2.CX P w) 1 A.f_shared_number A.d_shared_number ["low", "step", "high", "other_low", "other_step", "other_high"] (sp_shared_number K A) := by
  refine T.F_shared_number.okX sc_shared_number ?len (fun cdv Ar outer s H vs Q E hr h => ?_)
  case len => intro vs H Q E h; obtain ⟨_, _, _, _, _, _, rfl, _⟩ := h; rfl
  · refine ⟨_, ((pss_cons (ps_asg (pe_tup (pa_cons (pv 1) (pa_cons (pv 4) (pa_cons pe_int (pa_cons pe_int pa_nil))))) (pg_tup rfl (pgs_cons (pg_name (i := 6) sc_shared_number.nd rfl (.inl rfl)) (pgs_cons (pg_name (i := 7) sc_shared_number.nd rfl (.inl rfl)) (pgs_cons (pg_name (i := 8) sc_shared_number.nd rfl (.inl rfl)) (pgs_cons (pg_name (i := 9) sc_shared_number.nd rfl (.inl rfl)) pgs_nil))))))
      (pss_cons (ps_while (passes_of rfl) (pt_cmpR (op_neA (hr.units)) (pv 7) pe_int (nomark _)) (pss_cons (ps_set (i := 10) sc_shared_number.nd rfl (.inl rfl) (pe_op op_div (pv 6) (pv 7)))
      (pss_one (ps_asg (pe_tup (pa_cons (pv 7) (pa_cons (pe_op op_subI (pv 6) (pe_op op_mulA (pv 10) (pv 7))) (pa_cons (pv 9) (pa_cons (pe_op op_subI (pv 8) (pe_op op_mulA (pv 10) (pv 9))) pa_nil))))) (pg_tup rfl (pgs_cons (pg_name (i := 6) sc_shared_number.nd rfl (.inl rfl)) (pgs_cons (pg_name (i := 7) sc_shared_number.nd rfl (.inl rfl)) (pgs_cons (pg_name (i := 8) sc_shared_number.nd rfl (.inl rfl)) (pgs_cons (pg_name (i := 9) sc_shared_number.nd rfl (.inl rfl)) pgs_nil)))))))))
      (pss_cons (ps_set (i := 11) sc_shared_number.nd rfl (.inl rfl) (pe_op op_subI (pv 3) (pv 0)))
      (pss_cons (ps_if (pt_cmpR (op_neA (hr.units)) (pe_op op_modI (pv 11) (pv 6)) pe_int (nomark _)) (pss_one (ps_ret pe_non)) pss_nil)
      (pss_cons (ps_set (i := 12) sc_shared_number.nd rfl (.inl rfl) (pe_op op_mulA (pe_op op_div (pv 1) (pv 6)) (pv 4)))
      (pss_cons (ps_set (i := 13) sc_shared_number.nd rfl (.inl rfl) (pe_op op_addA (pv 0) (pe_op op_mulA (pe_op op_modI (pe_op op_mulA (pe_op op_div (pv 11) (pv 6)) (pv 8)) (pe_op op_div (pv 4) (pv 6))) (pv 1))))
      (pss_cons (ps_set (i := 14) sc_shared_number.nd rfl (.inl rfl) (pe_callB (cr_max rfl) (by rfl) T.z_max (by decide +kernel) (pa_cons (pe_lst (pa_cons (pv 0) (pa_cons (pv 3) pa_nil))) pa_nil)))
      (pss_cons (ps_if (pt_cmpR op_ltI (pv 13) (pv 14) (nomark _)) (pss_one (ps_set (i := 13) sc_shared_number.nd rfl (.inl rfl) (pe_op op_addA (pv 13) (pe_op op_mulA (pe_op op_div (pe_op op_subI (pe_op op_addA (pe_op op_subI (pv 14) (pv 13)) (pv 12)) pe_int) (pv 12)) (pv 12))))) (pss_one (ps_set (i := 13) sc_shared_number.nd rfl (.inl rfl) (pe_op op_subI (pv 13) (pe_op op_mulA (pe_op op_div (pe_op op_subI (pv 13) (pv 14)) (pv 12)) (pv 12))))))
      (pss_cons (ps_if (pt_cmpR op_gtI (pv 13) (pe_callB (cr_min rfl) (by rfl) T.z_min (by decide +kernel) (pa_cons (pe_lst (pa_cons (pv 2) (pa_cons (pv 5) pa_nil))) pa_nil)) (nomark _)) (pss_one (ps_ret pe_non)) pss_nil)
      (pss_one (ps_ret (pv 13))))))))))))), ?_⟩
    try dsimp only [cxOf]
    obtain ⟨l, s, h, l', s', h', rfl, s0, s0', sb, sb', lb, lb', k⟩ := h
    refine c_start (σ' := [some _, some _, some _, some _, some _, some _, none, none, none, none, none, none, none, none, none]) (by rfl) ?_
    walk_at "lb_go"
    refine c_sz (by simp) fun tp ntp => ?_
    have sm := Same.new (o := .tup [V.int s, .int s', .int 1, .int 0]) ntp
    walk_at "lb_go"
    have mw : ∀ {x y : Int}, x.natAbs ≤ 10 ^ 60 → y.natAbs ≤ 10 ^ 60 → CMulW x y := fun h1 h2 => mulw (Nat.le_trans h1 (by decide)) (Nat.le_trans h2 (by decide))
    have dw : ∀ {x y : Int}, 0 < y → y.natAbs ≤ 10 ^ 100 → CDivW x y := fun h1 h2 => wide_div (b := 400) h1 (Nat.lt_of_le_of_lt h2 (by decide)) (by decide) (by decide)
    with_reducible refine c_seq ?_
    refine c_while (fun m σ H' => Same H H' ∧ ∃ (a b x y : Int) (x10 : Option V), EI s s' a b x y ∧ a ≤ 10 ^ 40 ∧ b ≤ 10 ^ 40 ∧ m = b.toNat ∧ σ = [some (.int l), some (.int s), some (.int h), some (.int l'), some (.int s'), some (.int h'), some (.int a), some (.int b), some (.int x), some (.int y), x10, none, none, none, none]) ⟨_, sm, s, s', 1, 0, none, EI.start s0 s0', by omega, by omega, rfl, rfl⟩ (fun m σ1 H1 hp => ?_)
    obtain ⟨s1, a, b, x, y, x10, ei, ab, bb, rfl, rfl⟩ := hp
    have a0 := ei.a0
    have b0 := ei.b0
    have bx := ei.bx
    have by_ := ei.by_
    walk_at "lb_go"
    refine c_ifDN (fun e1 => ?_) (fun e1 => ?_)
    · refine c_wb fun N hN => ?_
      have q0 : 0 ≤ a / b := Int.ediv_nonneg (by omega) b0
      have q1 : a / b ≤ a := Int.ediv_le_self _ (by omega)
      have m1 : CMulW (a / b) b := mw (by omega) (by omega)
      have m2 : CMulW (a / b) y := mw (by omega) (by omega)
      have d1 : CDivW a b := dw (by omega) (by omega)
      walk_at "lb_go"
      refine c_sz (by simp) fun t2 nt2 => ?_
      walk_at "lb_go"
      have hd := Int.mul_ediv_add_emod a b
      have h2 := Int.emod_nonneg a e1
      have h3 := Int.emod_lt_of_pos a (show 0 < b by omega)
      have e2 : a / b * b = b * (a / b) := Int.mul_comm ..
      exact hN _ _ ⟨(a - a / b * b).toNat, by omega, Same.upd s1 (Same.free s1 nt2), b, a - a / b * b, y, x - a / b * y, _, ei.step e1, bb, by omega, rfl, rfl⟩
    · subst e1
      have bz := ei.end
      clear ei sm ntp
      have gd1 := bz.gA
      have gle : a ≤ s := Int.le_of_dvd s0 gd1
      have gle2 : a ≤ s' := Int.le_of_dvd s0' bz.gB
      have hP := period_pos bz s0 s0'
      have sa0 : 0 ≤ s / a := Int.ediv_nonneg (by omega) (by omega)
      have sa1 : s / a ≤ s := Int.ediv_le_self _ (by omega)
      have sb0 : 0 < s' / a := by
        obtain ⟨j, hj⟩ := bz.gB
        rw [hj, Int.mul_ediv_cancel_left _ (by omega)]
        by_cases z : 0 < j
        · exact z
        · exfalso
          have := Int.mul_nonneg (show 0 ≤ a by omega) (show 0 ≤ -j by omega)
          rw [Int.mul_neg] at this
          omega
      have sb1 : s' / a ≤ s' := Int.ediv_le_self _ (by omega)
      have m3 : CMulW (s / a) s' := mw (by omega) (by omega)
      have d3 : CDivW s a := dw a0 (by omega)
      have d4 : CDivW s' a := dw a0 (by omega)
      have d5 : CDivW (l' - l) a := dw a0 (by omega)
      have ld : ((l' - l) / a).natAbs ≤ 2 * 10 ^ 60 := Nat.le_trans (Int.natAbs_ediv_le_natAbs ..) (by omega)
      have m4 : CMulW ((l' - l) / a) x := mulw (Nat.le_trans ld (by decide)) (Nat.le_trans (show x.natAbs ≤ 10 ^ 60 by omega) (by decide))
      have k0 := Int.emod_nonneg ((l' - l) / a * x) (show s' / a ≠ 0 by omega)
      have k1 := Int.emod_lt_of_pos ((l' - l) / a * x) sb0
      have m5 : CMulW ((l' - l) / a * x % (s' / a)) s := mw (by omega) (by omega)
      have pl := prod_le (x := s / a) (y := s') (m := 10 ^ 40) (n := 10 ^ 40) (by omega) (by omega)
      have fl := prod_le (x := (l' - l) / a * x % (s' / a)) (y := s) (m := 10 ^ 40) (n := 10 ^ 40) (by omega) (by omega)
      have e80 : (10 : Nat) ^ 40 * 10 ^ 40 = 10 ^ 80 := by decide
      rw [e80] at pl fl
      walk_at "lb_go"
      walk_at "lb_if"
      refine c_ifDN (fun e2 => ?_) (fun e2 => ?_)
      · walk_at "lb_go"
        exact k none _ s1 (no_shared bz e2)
      walk_at "lb_go"
      refine c_sz (by simp) fun l1 nl1 => ?_
      have s2 := Same.upd s1 (Same.free s1 nl1) (o := .lst [V.int l, .int l'])
      obtain ⟨f1, f2⟩ := found_both bz e2
      have bst := fun {bo : Int} hbo => best_found (h := h) (h' := h') (bo := bo) bz s0 s0' f1 f2 hbo
      walk_at "lb_go"
      generalize hf : l + (l' - l) / a * x % (s' / a) * s = f at f1 f2 bst ⊢
      have fb : f.natAbs ≤ 10 ^ 90 := by omega
      generalize hPP : s / a * s' = P at hP pl bst m3 ⊢
      obtain ⟨bo, hbo⟩ : ∃ bo, bo = max l l' := ⟨_, rfl⟩
      rw [← hbo]
      have bst := bst hbo
      have dP : ∀ z : Int, CDivW z P := fun z => dw hP (by omega)
      have d6 := dP (bo - f + P - 1)
      have d7 := dP (f - bo)
      have mP : ∀ z : Int, z.natAbs ≤ 10 ^ 91 → CMulW (z / P) P := fun z hz => mulw (Nat.le_trans (Int.natAbs_ediv_le_natAbs ..) (Nat.le_trans hz (by decide))) (Nat.le_trans pl (by decide))
      have m6 := mP (bo - f + P - 1) (by omega)
      have m7 := mP (f - bo) (by omega)
      (with_reducible refine c_cut (fun σ H' => Same H H' ∧ σ = [some (.int l), some (.int s), some (.int h), some (.int l'), some (.int s'), some (.int h'), some (.int a), some (.int 0), some (.int x), some (.int y), x10, some (.int (l' - l)), some (.int P), some (.int (moved f bo P)), some (.int bo)]) (fun σ H' => ?_) fun N hN => ?_)
      rotate_left
      · walk_at "lb_if"
        refine c_ifD (fun e3 => ?_) (fun e3 => ?_)
        · walk_at "lb_go"
          refine hN _ _ ⟨s2, ?_⟩
          unfold moved
          rw [if_pos e3]; rfl
        · walk_at "lb_go"
          refine hN _ _ ⟨s2, ?_⟩
          unfold moved
          rw [if_neg e3]; rfl
      rintro ⟨s3, rfl⟩
      generalize moved f bo P = M at bst ⊢
      walk_at "lb_if"
      refine c_sz (by simp) fun l2 nl2 => ?_
      have s4 := Same.upd s3 (Same.free s3 nl2) (o := .lst [V.int h, .int h'])
      walk_at "lb_go"
      refine c_ifD (fun e3 => ?_) (fun e3 => ?_)
      · walk_at "lb_go"
        rw [if_pos e3] at bst
        exact k _ _ s4 bst
      · walk_at "lb_go"
        rw [if_neg e3] at bst
        exact k _ _ s4 bst
def Pg (s t c d x : Int) : Prop := ∃ k, 0 ≤ k ∧ k < c ∧ x = s + k * t + d
def InB (s t c z x : Int) : Prop := ∃ d, 0 ≤ d ∧ d < z ∧ Pg s t c d x
theorem prog_iff {s t c d x : Int} (t0 : t ≠ 0) (c0 : 0 < c) : (min s (s + (c - 1) * t) + d ≤ x ∧ x ≤ max s (s + (c - 1) * t) + d ∧ (if t < 0 then -t else t) ∣ x - (min s (s + (c - 1) * t) + d)) ↔ Pg s t c d x := by
  by_cases ht : t < 0
  · rw [if_pos ht]
    have e : (c - 1) * t ≤ 0 := by
      have := Int.mul_nonneg (show 0 ≤ c - 1 by omega) (show 0 ≤ -t by omega)
      rw [Int.mul_neg] at this; omega
    constructor
    · rintro ⟨h1, h2, j, hj⟩
      have e3 : x - d = s + (c - 1 - j) * t := by rw [Int.sub_mul]; rw [Int.neg_mul, Int.mul_comm t j] at hj; omega
      refine ⟨c - 1 - j, ?_, ?_, by omega⟩
      · by_cases z : 0 ≤ c - 1 - j
        · exact z
        · exfalso
          have := Int.mul_pos (show 0 < -(c - 1 - j) by omega) (show 0 < -t by omega)
          rw [Int.neg_mul_neg] at this
          omega
      · by_cases z : 0 ≤ j
        · omega
        · exfalso
          have := Int.mul_pos (show 0 < -t by omega) (show 0 < -j by omega)
          rw [Int.neg_mul_neg] at this
          rw [Int.neg_mul] at hj
          omega
    · rintro ⟨k, k0, k1, rfl⟩
      have a1 : (c - 1) * t = (c - 1 - k) * t + k * t := by rw [← Int.add_mul]; congr 1; omega
      have a2 : k * t ≤ 0 := by
        have := Int.mul_nonneg k0 (show 0 ≤ -t by omega)
        rw [Int.mul_neg] at this; omega
      have a3 : (c - 1 - k) * t ≤ 0 := by
        have := Int.mul_nonneg (show 0 ≤ c - 1 - k by omega) (show 0 ≤ -t by omega)
        rw [Int.mul_neg] at this; omega
      refine ⟨by omega, by omega, c - 1 - k, ?_⟩
      rw [Int.neg_mul, Int.mul_comm t]; omega
  · rw [if_neg ht]
    have e : 0 ≤ (c - 1) * t := Int.mul_nonneg (by omega) (by omega)
    constructor
    · rintro ⟨h1, h2, j, hj⟩
      rw [Int.mul_comm t j] at hj
      refine ⟨j, ?_, ?_, by omega⟩
      · by_cases z : 0 ≤ j
        · exact z
        · exfalso
          have := Int.mul_pos (show 0 < -j by omega) (show 0 < t by omega)
          rw [Int.neg_mul] at this
          omega
      · by_cases z : j < c
        · exact z
        · exfalso
          have := Int.mul_pos (show 0 < j - (c - 1) by omega) (show 0 < t by omega)
          rw [Int.sub_mul] at this
          omega
    · rintro ⟨k, k0, k1, rfl⟩
      have a1 : (c - 1) * t = (c - 1 - k) * t + k * t := by rw [← Int.add_mul]; congr 1; omega
      have a2 : 0 ≤ k * t := Int.mul_nonneg k0 (by omega)
      have a3 : 0 ≤ (c - 1 - k) * t := Int.mul_nonneg (by omega) (by omega)
      refine ⟨by omega, by omega, k, ?_⟩
      rw [Int.mul_comm t]; omega
def comb : Option Int → Option Int → Option Int
  | none, b => b
  | some f, none => some f
  | some f, some b => if f < b then some f else some b
theorem Best.comb {S S' T : Int → Prop} {f b : Option Int} (h : Best S b) (h' : Best S' f) (e : ∀ x, T x ↔ S x ∨ S' x) : Best T (comb f b) := by
  cases f with
  | none =>
    cases b with
    | none => intro x hx; rcases (e x).mp hx with q | q; exact h x q; exact h' x q
    | some b => exact ⟨(e b).mpr (.inl h.1), fun x hx => by rcases (e x).mp hx with q | q; exact h.2 x q; exact absurd q (h' x)⟩
  | some f =>
    cases b with
    | none => exact ⟨(e f).mpr (.inr h'.1), fun x hx => by rcases (e x).mp hx with q | q; exact absurd q (h x); exact h'.2 x q⟩
    | some b =>
      show Best T (if f < b then some f else some b)
      split
      · rename_i hl
        exact ⟨(e f).mpr (.inr h'.1), fun x hx => by rcases (e x).mp hx with q | q; have := h.2 x q; omega; exact h'.2 x q⟩
      · rename_i hl
        exact ⟨(e b).mpr (.inl h.1), fun x hx => by rcases (e x).mp hx with q | q; exact h.2 x q; have := h'.2 x q; omega⟩
theorem Best.eqv {S T : Int → Prop} {r : Option Int} (h : Best S r) (e : ∀ x, S x ↔ T x) : Best T r := by
  cases r with
  | none => exact fun x hx => h x ((e x).mpr hx)
  | some m => exact ⟨(e m).mp h.1, fun x hx => h.2 x ((e x).mpr hx)⟩
/-- the numbers of a window as k06 has them -/
def WinK (s t c z : Int) : Prop := 1 ≤ z ∧ z ≤ 4 ∧ t ≠ 0 ∧ t.natAbs ≤ 10 ^ 36 ∧ 0 ≤ c ∧ c ≤ 10 ^ 22 ∧ s.natAbs ≤ 10 ^ 50
def sp_Window_progression (K : PySem.W.Frag) (A : Ad) : Sp := fun vs H Q E => ∃ (p : Addr) (s t c z d : Int), vs = [.ref p, .int d] ∧ WinAt A H p s t c z ∧ WinK s t c z ∧ 0 < c ∧ 0 ≤ d ∧ d ≤ 4 ∧
  ∀ r lo hi, lo.natAbs ≤ 10 ^ 60 → (∀ x, (lo ≤ x ∧ x ≤ hi ∧ (if t < 0 then -t else t) ∣ x - lo) ↔ Pg s t c d x) → ∀ H', Same H H' → H' r = some (.tup [.int lo, .int (if t < 0 then -t else t), .int hi]) → Q (.ref r) H'
theorem sc_Window_progression : FnScope ["self", "d", "last"] ["self", "d"] (defScope s_Window_progression) := ⟨rfl, rfl, rfl, by decide +kernel, rfl, by decide +kernel, by decide +kernel⟩
theorem ok_Window_progression (T : Txt P K mg A) : FnOk P w K mg base (L2.CX P w) 1 A.f_Window_progression A.d_Window_progression ["self", "d"] (sp_Window_progression K A) := by
  refine T.F_Window_progression.okX sc_Window_progression ?len (fun cdv Ar outer s H vs Q E hr h => ?_)
  case len => intro vs H Q E h; obtain ⟨_, _, _, _, _, _, rfl, _⟩ := h; rfl
  · refine ⟨_, ((pss_cons (ps_set (i := 2) sc_Window_progression.nd rfl (.inl rfl) (pe_op op_addA (pe_fld (pv 0) rfl) (pe_op op_mulA (pe_op op_subI (pe_fld (pv 0) rfl) pe_int) (pe_fld (pv 0) rfl))))
      (pss_one (ps_ret (pe_tup (pa_cons (pe_op op_addA (pe_callB (cr_min rfl) (by rfl) T.z_min (by decide +kernel) (pa_cons (pe_lst (pa_cons (pe_fld (pv 0) rfl) (pa_cons (pv 2) pa_nil))) pa_nil)) (pv 1)) (pa_cons (pe_callB call_absA (by rfl) T.z_abs (by decide +kernel) (pa_cons (pe_fld (pv 0) rfl) pa_nil)) (pa_cons (pe_op op_addA (pe_callB (cr_max rfl) (by rfl) T.z_max (by decide +kernel) (pa_cons (pe_lst (pa_cons (pe_fld (pv 0) rfl) (pa_cons (pv 2) pa_nil))) pa_nil)) (pv 1)) pa_nil)))))))), ?_⟩
    try dsimp only [cxOf]
    obtain ⟨p, s, t, c, z, d, rfl, ⟨dx, hw⟩, ⟨z1, z4, t0, tb, c0, cb, sb⟩, c1, d0, d1, k⟩ := h
    refine c_start (σ' := [some _, some _, none]) (by rfl) ?_
    have hm : CMulW (c - 1) t := mulw (Nat.le_trans (show (c - 1).natAbs ≤ 10 ^ 60 by omega) (by decide)) (Nat.le_trans tb (by decide))
    have pl := prod_le (x := c - 1) (y := t) (m := 10 ^ 22) (n := 10 ^ 36) (by omega) tb
    have e80 : (10 : Nat) ^ 22 * 10 ^ 36 = 10 ^ 58 := by decide
    rw [e80] at pl
    walk_at "lb_go"
    refine c_sz (by simp) fun l1 nl1 => ?_
    walk_at "lb_go"
    refine c_sz (by simp) fun l2 nl2 => ?_
    walk_at "lb_go"
    refine c_sz (by simp) fun r nr => ?_
    have s1 := Same.new nl1 (o := .lst [V.int s, .int (s + (c - 1) * t)])
    have s2 := Same.upd s1 (Same.free s1 nl2) (o := .lst [V.int s, .int (s + (c - 1) * t)])
    exact k r _ _ (by omega) (fun x => prog_iff t0 c1) _ (Same.upd s2 (Same.free s2 nr)) upd_same
def sp_Window_meets (K : PySem.W.Frag) (A : Ad) : Sp := fun vs H Q E => ∃ (p q : Addr) (s t c z s' t' c' z' : Int), vs = [.ref p, .ref q] ∧ WinAt A H p s t c z ∧ WinAt A H q s' t' c' z' ∧ WinK s t c z ∧ WinK s' t' c' z' ∧
  ∀ r H', Same H H' → Best (fun x => InB s t c z x ∧ InB s' t' c' z' x) r → Q (optV r) H'
theorem sc_Window_meets : FnScope ["self", "other", "best", "d", "low", "step", "high", "e", "other_low", "other_step", "other_high", "found"] ["self", "other"] (defScope s_Window_meets) := ⟨rfl, rfl, rfl, by decide +kernel, rfl, by decide +kernel, by decide +kernel⟩
theorem ok_Window_meets (T : Txt P K mg A) : FnOk P w K mg base (L2.CX P w) 2 A.f_Window_meets A.d_Window_meets ["self", "other"] (sp_Window_meets K A) := by
  have G_Window_progression : FnR P w K mg base (L2.CX P w) 1 A.f_Window_progression (sp_Window_progression K A) := FnOk.r0 (ok_Window_progression T) T.b_Window_progression
  have G_shared_number : FnR P w K mg base (L2.CX P w) 1 A.f_shared_number (sp_shared_number K A) := FnOk.r0 (ok_shared_number T) T.b_shared_number
  refine T.F_Window_meets.okX sc_Window_meets ?len (fun cdv Ar outer s H vs Q E hr h => ?_)
  case len => intro vs H Q E h; obtain ⟨_, _, _, _, _, _, _, _, _, _, rfl, _⟩ := h; rfl
  · refine ⟨_, ((pss_cons (ps_if (PW.pt (pw_or (pt_cmpR (op_eqA (hr.units)) (pe_fld (pv 0) rfl) pe_int (nomark _)) (pw_or1 (pt_cmpR (op_eqA (hr.units)) (pe_fld (pv 1) rfl) pe_int (nomark _))))) (pss_one (ps_ret pe_non)) pss_nil)
      (pss_cons (ps_set (i := 2) sc_Window_meets.nd rfl (.inl rfl) pe_non)
      (pss_cons (ps_for (passes_of rfl) rfl (pi_range1 rfl T.z_range (pa_cons (pe_fld (pv 0) rfl) pa_nil)) (pg_name (i := 3) sc_Window_meets.nd rfl (.inl rfl)) (pss_cons (ps_asg (pe_methX (pv 0) T.cl_Window T.mt_Window_progression G_Window_progression (hr.mono (by decide)) (fun σ => passAt (takes_of rfl rfl rfl rfl) σ) (pa_cons (pv 3) pa_nil)) (pg_tup rfl (pgs_cons (pg_name (i := 4) sc_Window_meets.nd rfl (.inl rfl)) (pgs_cons (pg_name (i := 5) sc_Window_meets.nd rfl (.inl rfl)) (pgs_cons (pg_name (i := 6) sc_Window_meets.nd rfl (.inl rfl)) pgs_nil)))))
      (pss_one (ps_for (passes_of rfl) rfl (pi_range1 rfl T.z_range (pa_cons (pe_fld (pv 1) rfl) pa_nil)) (pg_name (i := 7) sc_Window_meets.nd rfl (.inl rfl)) (pss_cons (ps_asg (pe_methX (pv 1) T.cl_Window T.mt_Window_progression G_Window_progression (hr.mono (by decide)) (fun σ => passAt (takes_of rfl rfl rfl rfl) σ) (pa_cons (pv 7) pa_nil)) (pg_tup rfl (pgs_cons (pg_name (i := 8) sc_Window_meets.nd rfl (.inl rfl)) (pgs_cons (pg_name (i := 9) sc_Window_meets.nd rfl (.inl rfl)) (pgs_cons (pg_name (i := 10) sc_Window_meets.nd rfl (.inl rfl)) pgs_nil)))))
      (pss_cons (ps_set (i := 11) sc_Window_meets.nd rfl (.inl rfl) (pe_callX G_shared_number (hr.mono (by decide)) rfl T.g_shared_number T.kp_shared_number (fun σ => passAt (takes_of rfl rfl rfl rfl) σ) (pa_cons (pv 4) (pa_cons (pv 5) (pa_cons (pv 6) (pa_cons (pv 8) (pa_cons (pv 9) (pa_cons (pv 10) pa_nil))))))))
      (pss_one (ps_if (PW.pt (pw_and (pt_cmpR op_isnt0 (pv 11) pe_non (nomark _)) (pw_and1 (PW.pt (pw_or (pt_cmpR op_is0 (pv 2) pe_non (nomark _)) (pw_or1 (pt_cmpR op_ltI (pv 11) (pv 2) (nomark _)))))))) (pss_one (ps_set (i := 2) sc_Window_meets.nd rfl (.inl rfl) (pv 11))) pss_nil))))))))
      (pss_one (ps_ret (pv 2))))))), ?_⟩
    try dsimp only [cxOf]
    obtain ⟨p, q, s, t, c, z, s', t', c', z', rfl, ⟨dx, hp⟩, ⟨dy, hq⟩, wk, wk', k⟩ := h
    obtain ⟨z1, z4, t0, tb, c0, cb, sb⟩ := id wk
    obtain ⟨z1', z4', t0', tb', c0', cb', sb'⟩ := id wk'
    refine c_start (σ' := [some _, some _, none, none, none, none, none, none, none, none, none, none]) (by rfl) ?_
    walk_at "lb_go"
    walk_at "lb_if"
    refine c_ifD (fun e1 => ?_) (fun e1 => ?_)
    · walk_at "lb_go"
      exact k none _ (Same.refl _) fun x ⟨⟨d, _, _, j, h1, h2, _⟩, _⟩ => by omega
    walk_at "lb_go"
    refine c_ifD (fun e2 => ?_) (fun e2 => ?_)
    · walk_at "lb_go"
      exact k none _ (Same.refl _) fun x ⟨_, ⟨d, _, _, j, h1, h2, _⟩⟩ => by omega
    walk_at "lb_go"
    walk_at "lb_for"
    refine forR_of (by omega) (fun i σ H' => Same H H' ∧ ∃ r x3 x4 x5 x6 x7 x8 x9 x10 x11, Best (fun x => ∃ d, 0 ≤ d ∧ d < (i : Int) ∧ Pg s t c d x ∧ InB s' t' c' z' x) r ∧ σ = [some (.ref p), some (.ref q), some (optV r), x3, x4, x5, x6, x7, x8, x9, x10, x11]) ⟨Same.refl _, none, none, none, none, none, none, none, none, none, none, fun x ⟨d, h1, h2, _⟩ => by omega, rfl⟩ (fun i σ' H' hi hh => ?_) (fun σ' H' hh => ?_)
    · obtain ⟨s1, r, x3, x4, x5, x6, x7, x8, x9, x10, x11, hb, rfl⟩ := hh
      have hp1 := s1 _ _ hp
      have hq1 := s1 _ _ hq
      walk_at "lb_go"
      refine ⟨p, s, t, c, z, i, rfl, ⟨_, hp1⟩, wk, by omega, by omega, by omega, fun tp lo hi' lob hpg H2 s2 e2 => ?_⟩
      have hq2 := s2 _ _ hq1
      have s12 := Same.trans s1 s2
      walk_at "lb_go"
      walk_at "lb_for"
      refine forR_of (by omega) (fun j σ H' => Same H H' ∧ ∃ r x7 x8 x9 x10 x11, Best (fun x => (∃ d, 0 ≤ d ∧ d < (i : Int) ∧ Pg s t c d x ∧ InB s' t' c' z' x) ∨ (Pg s t c i x ∧ ∃ e, 0 ≤ e ∧ e < (j : Int) ∧ Pg s' t' c' e x)) r ∧ σ = [some (.ref p), some (.ref q), some (optV r), some (.int i), some (.int lo), some (.int (if t < 0 then -t else t)), some (.int hi'), x7, x8, x9, x10, x11]) ⟨s12, r, x7, x8, x9, x10, x11, hb.eqv fun x => ⟨.inl, fun h => h.elim id fun ⟨_, e, h1, h2, _⟩ => by omega⟩, rfl⟩ (fun j σ' H3 hj hh => ?_) (fun σ' H3 hh => ?_)
      · obtain ⟨s3, r, x7, x8, x9, x10, x11, hb, rfl⟩ := hh
        have hq3 := s3 _ _ hq
        walk_at "lb_go"
        refine ⟨q, s', t', c', z', j, rfl, ⟨_, hq3⟩, wk', by omega, by omega, by omega, fun tp2 lo2 hi2 lob2 hpg2 H4 s4 e4 => ?_⟩
        walk_at "lb_go"
        have ab : ∀ t : Int, t ≠ 0 → t.natAbs ≤ 10 ^ 36 → 0 < (if t < 0 then -t else t) ∧ (if t < 0 then -t else t).natAbs ≤ 10 ^ 40 := fun t h1 h2 => by split <;> omega
        refine ⟨lo, _, hi', lo2, _, hi2, rfl, (ab t t0 tb).1, (ab t' t0' tb').1, (ab t t0 tb).2, (ab t' t0' tb').2, lob, lob2, fun f H5 s5 bf => ?_⟩
        have bf2 : Best (fun x => Pg s t c i x ∧ Pg s' t' c' j x) f := bf.eqv fun x => ⟨fun ⟨h1, h2, h3, h4, h5, h6⟩ => ⟨(hpg x).mp ⟨h1, h3, h5⟩, (hpg2 x).mp ⟨h2, h4, h6⟩⟩, fun ⟨h1, h2⟩ => by
          have a := (hpg x).mpr h1
          have b := (hpg2 x).mpr h2
          exact ⟨a.1, b.1, a.2.1, b.2.1, a.2.2, b.2.2⟩⟩
        have bc := hb.comb bf2 (T := fun x => (∃ d, 0 ≤ d ∧ d < (i : Int) ∧ Pg s t c d x ∧ InB s' t' c' z' x) ∨ (Pg s t c i x ∧ ∃ e, 0 ≤ e ∧ e < ((j + 1 : Nat) : Int) ∧ Pg s' t' c' e x)) (fun x => by
          constructor
          · rintro (h | ⟨h1, e, e0, e1, h2⟩)
            · exact .inl (.inl h)
            · by_cases z : e = j
              · rw [z] at h2; exact .inr ⟨h1, h2⟩
              · exact .inl (.inr ⟨h1, e, e0, by omega, h2⟩)
          · rintro ((h | ⟨h1, e, e0, e1, h2⟩) | ⟨h1, h2⟩)
            · exact .inl h
            · exact .inr ⟨h1, e, e0, by omega, h2⟩
            · exact .inr ⟨h1, j, by omega, by omega, h2⟩)
        have s15 := Same.trans s3 (Same.trans s4 s5)
        walk_at "lb_go"
        walk_at "lb_if"
        cases f with
        | none =>
          refine c_ifFN rfl ?_
          walk_at "lb_go"
          exact ⟨s15, r, _, _, _, _, _, bc, rfl⟩
        | some f =>
          refine c_ifTN (fun e => nomatch e) ?_
          walk_at "lb_go"
          cases r with
          | none =>
            refine c_ifT rfl ?_
            walk_at "lb_go"
            exact ⟨s15, some f, _, _, _, _, _, bc, rfl⟩
          | some m =>
            refine c_ifF (fun e => nomatch e) ?_
            dsimp only [optV]
            walk_at "lb_go"
            refine c_ifD (fun e3 => ?_) (fun e3 => ?_)
            · walk_at "lb_go"
              refine ⟨s15, some f, _, _, _, _, _, ?_, rfl⟩
              have e : comb (some f) (some m) = some f := if_pos e3
              rw [e] at bc
              exact bc
            · walk_at "lb_go"
              refine ⟨s15, some m, _, _, _, _, _, ?_, rfl⟩
              have e : comb (some f) (some m) = some m := if_neg e3
              rw [e] at bc
              exact bc
      · obtain ⟨s3, r, x7, x8, x9, x10, x11, hb, rfl⟩ := hh
        refine ⟨s3, r, _, _, _, _, _, _, _, _, _, hb.eqv fun x => ?_, rfl⟩
        constructor
        · rintro (⟨d, d0, d1, h⟩ | ⟨h1, e, e0, e1, h2⟩)
          · exact ⟨d, d0, by omega, h⟩
          · exact ⟨i, by omega, by omega, h1, e, e0, by omega, h2⟩
        · rintro ⟨d, d0, d1, h1, e, e0, e1, h2⟩
          by_cases y : d = i
          · rw [y] at h1; exact .inr ⟨h1, e, e0, by omega, h2⟩
          · exact .inl ⟨d, d0, by omega, h1, e, e0, e1, h2⟩
    · obtain ⟨s3, r, x3, x4, x5, x6, x7, x8, x9, x10, x11, hb, rfl⟩ := hh
      walk_at "lb_go"
      refine k r _ s3 (hb.eqv fun x => ?_)
      constructor
      · rintro ⟨d, d0, d1, h1, h2⟩
        exact ⟨⟨d, d0, by omega, h1⟩, h2⟩
      · rintro ⟨⟨d, d0, d1, h1⟩, h2⟩
        exact ⟨d, d0, by omega, h1, h2⟩
def hitL (s t c b d : Int) : Bool := decide (s + (b - d - s).fdiv t * t + d = b) && (decide (0 ≤ (b - d - s).fdiv t) && decide ((b - d - s).fdiv t < c))
theorem fdiv_le {x t : Int} : (x.fdiv t).natAbs ≤ x.natAbs + 1 := by
  rw [Int.fdiv_eq_ediv]
  have q := Int.natAbs_ediv_le_natAbs x t
  split <;> omega
theorem hitL_iff {s t c b d : Int} (t0 : t ≠ 0) : hitL s t c b d = true ↔ Pg s t c d b := by
  unfold hitL Pg
  simp only [Bool.and_eq_true, decide_eq_true_eq]
  constructor
  · rintro ⟨h1, h2, h3⟩; exact ⟨_, h2, h3, h1.symm⟩
  · rintro ⟨k, h2, h3, e⟩
    have : (b - d - s).fdiv t = k := by
      rw [show b - d - s = t * k by rw [Int.mul_comm]; omega, Int.mul_fdiv_cancel_left _ t0]
    rw [this]
    exact ⟨e.symm, h2, h3⟩
theorem inW_of {s t c z b : Int} (t0 : t ≠ 0) (h : InB s t c z b) : inW s t c z b = true := by
  obtain ⟨d, d0, d1, k, k0, k1, e⟩ := h
  refine any_yes (i := d.toNat) (by omega) ?_
  have ed : ((d.toNat : Nat) : Int) = d := by omega
  unfold hitW
  rw [ed]
  have e1 : b - s - d = t * k := by rw [Int.mul_comm]; omega
  have e2 : (b - s - d) % absI t = 0 := by
    rw [e1]
    unfold absI
    split
    · exact Int.emod_eq_zero_of_dvd ⟨-k, by rw [Int.neg_mul_neg]⟩
    · exact Int.mul_emod_right ..
  rw [e2, e1, Int.mul_fdiv_cancel_left _ t0, decide_eq_true k0, decide_eq_true k1]
  rfl
def sp__law_has (K : PySem.W.Frag) (A : Ad) : Sp := fun vs H Q E => ∃ (lp : Addr) (s t c z b : Int), vs = [.ref lp, .int b] ∧ H lp = some (.lst [.int s, .int t, .int c, .int z]) ∧ WinK s t c z ∧ b.natAbs ≤ 10 ^ 100 ∧ (InB s t c z b → Q (.bl true) H) ∧ (¬ InB s t c z b → Q (.bl false) H)
theorem sc__law_has : FnScope ["_law_parts_here", "_law_byte", "_law_d", "_law_cell"] ["_law_parts_here", "_law_byte"] (defScope s__law_has) := ⟨rfl, rfl, rfl, by decide +kernel, rfl, by decide +kernel, by decide +kernel⟩
theorem ok__law_has (T : Txt P K mg A) : FnOk P w K mg base (L2.CX P w) 1 A.f__law_has A.d__law_has ["_law_parts_here", "_law_byte"] (sp__law_has K A) := by
  refine T.F__law_has.okX sc__law_has ?len (fun cdv Ar outer s H vs Q E hr h => ?_)
  case len => intro vs H Q E h; obtain ⟨_, _, _, _, _, _, rfl, _⟩ := h; rfl
  · refine ⟨_, ((pss_cons (ps_for (passes_of rfl) rfl (pi_range1 rfl T.z_range (pa_cons (pe_ix ix_seq (pv 0) pe_int (fun _ _ => rfl)) pa_nil)) (pg_name (i := 2) sc__law_has.nd rfl (.inl rfl)) (pss_cons (ps_set (i := 3) sc__law_has.nd rfl (.inl rfl) (pe_op op_fdivZ (pe_op op_subI (pe_op op_subI (pv 1) (pv 2)) (pe_ix ix_seq (pv 0) pe_int (fun _ _ => rfl))) (pe_ix ix_seq (pv 0) pe_int (fun _ _ => rfl))))
      (pss_one (ps_if (PW.pt (pw_and (pt_cmpR (op_eqA (hr.units)) (pe_op op_addA (pe_op op_addA (pe_ix ix_seq (pv 0) pe_int (fun _ _ => rfl)) (pe_op op_mulA (pv 3) (pe_ix ix_seq (pv 0) pe_int (fun _ _ => rfl)))) (pv 2)) (pv 1) (nomark _)) (pw_and1 (pt_chain op_leI op_ltI pe_int (pv 3) (pe_ix ix_seq (pv 0) pe_int (fun _ _ => rfl)))))) (pss_one (ps_ret pe_bl)) pss_nil))))
      (pss_one (ps_ret pe_bl)))), ?_⟩
    try dsimp only [cxOf]
    obtain ⟨lp, s, t, c, z, b, rfl, hl, ⟨z1, z4, t0, tb, c0, cb, sb⟩, bb, kT, kF⟩ := h
    refine c_start (σ' := [some _, some _, none, none]) (by rfl) ?_
    walk_at "lb_go"
    walk_at "lb_for"
    refine forR_of (by omega) (fun i σ H' => H' = H ∧ (∀ j : Nat, j < i → hitL s t c b j = false) ∧ ∃ x y, σ = [some (.ref lp), some (.int b), x, y]) ⟨rfl, fun j hj => absurd hj (Nat.not_lt_zero _), _, _, rfl⟩ (fun i σ' H' hi => ?_) (fun σ' H' => ?_)
    · rintro ⟨eH, hno, x, y, rfl⟩
      subst eH
      have no : hitL s t c b (i : Int) = false → ∀ j : Nat, j < i + 1 → hitL s t c b j = false := fun h j hj => by
        rcases Nat.lt_succ_iff_lt_or_eq.mp hj with q | q
        · exact hno j q
        · rw [q]; exact h
      have hdz : CDivZ (b - (i : Int) - s) t := divZ_of (b := 200) t0 (by omega) (by decide) (by decide)
      have hm : CMulW ((b - (i : Int) - s).fdiv t) t := wide_mul (a := 450) (b := 200) (Nat.lt_of_le_of_lt fdiv_le (Nat.lt_of_le_of_lt (show (b - (i : Int) - s).natAbs + 1 ≤ 10 ^ 121 by omega) (by decide))) (by omega) (by decide) (by decide) (by decide)
      walk_at "lb_go"
      walk_at "lb_if"
      refine c_ifD (fun e1 => ?_) (fun e1 => ?_)
      · walk_at "lb_go"
        refine c_ifD (fun e2 => ?_) (fun e2 => ?_)
        · walk_at "lb_go"
          refine c_ifD (fun e3 => ?_) (fun e3 => ?_)
          · walk_at "lb_go"
            exact kT ⟨i, by omega, by omega, (hitL_iff t0).mp (by unfold hitL; rw [decide_eq_true e1, decide_eq_true e2, decide_eq_true e3]; rfl)⟩
          · walk_at "lb_go"
            exact ⟨rfl, no (by unfold hitL; rw [decide_eq_false e3, Bool.and_false, Bool.and_false]), _, _, rfl⟩
        · walk_at "lb_go"
          exact ⟨rfl, no (by unfold hitL; rw [decide_eq_false e2, Bool.false_and, Bool.and_false]), _, _, rfl⟩
      · walk_at "lb_go"
        exact ⟨rfl, no (by unfold hitL; rw [decide_eq_false e1, Bool.false_and]), _, _, rfl⟩
    · rintro ⟨eH, hno, x, y, rfl⟩
      subst eH
      walk_at "lb_go"
      refine kF fun ⟨d, d0, d1, h⟩ => ?_
      have := hno d.toNat (by omega)
      rw [show ((d.toNat : Nat) : Int) = d by omega, (hitL_iff t0).mpr h] at this
      cases this
/-- the parts as they are drawn -/
def WinP (s t c z : Int) : Prop := (z = 1 ∨ z = 2 ∨ z = 4) ∧ z ≤ (t.natAbs : Int) ∧ t.natAbs ≤ 10 ^ 21 ∧ 0 ≤ c ∧ c ≤ 10 ^ 20 ∧ 0 ≤ s ∧ s ≤ 10 ^ 20
def sp__law_parts (K : PySem.W.Frag) (A : Ad) : Sp := fun vs H Q E => ∃ (st : Addr) (n : Int) (b : Bool), vs = [.ref st, .bl b] ∧ StAt H st n ∧ 0 ≤ n ∧ n ≤ 100 ∧
  ∀ lp s t c z H', Kp [st] H H' → StAt H' st 200 → H lp = none → H' lp = some (.lst [.int s, .int t, .int c, .int z]) → WinP s t c z → (b = false → c ≤ 24) → Q (.ref lp) H'
theorem sc__law_parts : FnScope ["_law_state_here", "_law_wide", "_law_size", "_law_step", "_law_count", "_law_start"] ["_law_state_here", "_law_wide"] (defScope s__law_parts) := ⟨rfl, rfl, rfl, by decide +kernel, rfl, by decide +kernel, by decide +kernel⟩
theorem ok__law_parts (T : Txt P K mg A) : FnOk P w K mg base (L2.CX P w) 2 A.f__law_parts A.d__law_parts ["_law_state_here", "_law_wide"] (sp__law_parts K A) := by
  have G__law_pick : FnR P w K mg base (L2.CX P w) 1 A.f__law_pick (sp__law_pick K A) := FnOk.r0 (ok__law_pick T) T.b__law_pick
  refine T.F__law_parts.okX sc__law_parts ?len (fun cdv Ar outer s H vs Q E hr h => ?_)
  case len => intro vs H Q E h; obtain ⟨_, _, _, rfl, _⟩ := h; rfl
  · refine ⟨_, ((pss_cons (ps_set (i := 2) sc__law_parts.nd rfl (.inl rfl) (pe_ix ix_seq (pe_lst (pa_cons pe_int (pa_cons pe_int (pa_cons pe_int pa_nil)))) (pe_callX G__law_pick (hr.mono (by decide)) rfl T.g__law_pick T.kp__law_pick (fun σ => passAt (takes_of rfl rfl rfl rfl) σ) (pa_cons (pv 0) (pa_cons pe_int pa_nil))) (fun _ _ => rfl)))
      (pss_cons (ps_set (i := 3) sc__law_parts.nd rfl (.inl rfl) (pe_op op_addA (pv 2) (pe_callX G__law_pick (hr.mono (by decide)) rfl T.g__law_pick T.kp__law_pick (fun σ => passAt (takes_of rfl rfl rfl rfl) σ) (pa_cons (pv 0) (pa_cons pe_int pa_nil)))))
      (pss_cons (ps_set (i := 4) sc__law_parts.nd rfl (.inl rfl) (pe_callX G__law_pick (hr.mono (by decide)) rfl T.g__law_pick T.kp__law_pick (fun σ => passAt (takes_of rfl rfl rfl rfl) σ) (pa_cons (pv 0) (pa_cons pe_int pa_nil))))
      (pss_cons (ps_set (i := 5) sc__law_parts.nd rfl (.inl rfl) (pe_callX G__law_pick (hr.mono (by decide)) rfl T.g__law_pick T.kp__law_pick (fun σ => passAt (takes_of rfl rfl rfl rfl) σ) (pa_cons (pv 0) (pa_cons pe_int pa_nil))))
      (pss_cons (ps_if (pt_val (pv 1) (by intro _; rfl)) (pss_cons (ps_set (i := 3) sc__law_parts.nd rfl (.inl rfl) (pe_op op_addA (pv 2) (pe_callX G__law_pick (hr.mono (by decide)) rfl T.g__law_pick T.kp__law_pick (fun σ => passAt (takes_of rfl rfl rfl rfl) σ) (pa_cons (pv 0) (pa_cons (pe_op op_powI pe_int pe_int) pa_nil)))))
      (pss_cons (ps_set (i := 4) sc__law_parts.nd rfl (.inl rfl) (pe_callX G__law_pick (hr.mono (by decide)) rfl T.g__law_pick T.kp__law_pick (fun σ => passAt (takes_of rfl rfl rfl rfl) σ) (pa_cons (pv 0) (pa_cons (pe_op op_powI pe_int pe_int) pa_nil))))
      (pss_one (ps_set (i := 5) sc__law_parts.nd rfl (.inl rfl) (pe_callX G__law_pick (hr.mono (by decide)) rfl T.g__law_pick T.kp__law_pick (fun σ => passAt (takes_of rfl rfl rfl rfl) σ) (pa_cons (pv 0) (pa_cons (pe_op op_powI pe_int pe_int) pa_nil))))))) pss_nil)
      (pss_one (ps_ret (pe_lst (pa_cons (pv 5) (pa_cons (pe_op op_mulA (pv 3) (pe_ix ix_seq (pe_lst (pa_cons pe_int (pa_cons (pe_un un_negI pe_int) pa_nil))) (pe_callX G__law_pick (hr.mono (by decide)) rfl T.g__law_pick T.kp__law_pick (fun σ => passAt (takes_of rfl rfl rfl rfl) σ) (pa_cons (pv 0) (pa_cons pe_int pa_nil))) (fun _ _ => rfl))) (pa_cons (pv 4) (pa_cons (pv 2) pa_nil))))))))))))), ?_⟩
    try dsimp only [cxOf]
    obtain ⟨st, n, b, rfl, t0, n0, n1, k⟩ := h
    refine c_start (σ' := [some _, some _, none, none, none, none]) (by rfl) ?_
    walk_at "lb_go"
    refine c_draw (ns := [1, 2, 4]) rfl rfl t0 n0 (by omega) rfl (by decide) fun z H1 hz k1 t1 => ?_
    replace hz : z = 1 ∨ z = 2 ∨ z = 4 := by simpa using hz
    walk_at "lb_go"
    refine c_pick t1 (by omega) (by omega) (by decide) fun r1 H2 a1 b1 k2 t2 => ?_
    walk_at "lb_go"
    refine c_pick t2 (by omega) (by omega) (by decide) fun r2 H3 a2 b2 k3 t3 => ?_
    walk_at "lb_go"
    refine c_pick t3 (by omega) (by omega) (by decide) fun r3 H4 a3 b3 k4 t4 => ?_
    walk_at "lb_go"
    have K4 := kpx (kpx (kpx k1 k2) k3) k4
    (with_reducible refine c_cut (fun σ H' => Kp [st] H H' ∧ StAt H' st 150 ∧ ∃ s t c : Int, z ≤ t ∧ t ≤ 10 ^ 21 ∧ 0 ≤ c ∧ c ≤ 10 ^ 20 ∧ 0 ≤ s ∧ s ≤ 10 ^ 20 ∧ (b = false → c ≤ 24) ∧ σ = [some (.ref st), some (.bl b), some (.int z), some (.int t), some (.int c), some (.int s)]) (fun σ H' => ?_) fun N hN => ?_)
    rotate_left
    · walk_at "lb_if"
      cases b with
      | true =>
        walk_at "lb_go"
        refine c_pick t4 (by omega) (by omega) (by decide) fun r5 H5 a5 b5 k5 t5 => ?_
        walk_at "lb_go"
        refine c_pick t5 (by omega) (by omega) (by decide) fun r6 H6 a6 b6 k6 t6 => ?_
        walk_at "lb_go"
        refine c_pick t6 (by omega) (by omega) (by decide) fun r7 H7 a7 b7 k7 t7 => ?_
        walk_at "lb_go"
        exact hN _ _ ⟨kpx (kpx (kpx K4 k5) k6) k7, t7.mono (by omega), _, _, _, by omega, by omega, a6, by omega, a7, by omega, (fun h => nomatch h), rfl⟩
      | false =>
        walk_at "lb_go"
        exact hN _ _ ⟨K4, t4.mono (by omega), _, _, _, by omega, by omega, a2, by omega, a3, by omega, (fun _ => by omega), rfl⟩
    clear t0 k1 t1 k2 t2 k3 t3 k4 t4 K4
    rintro ⟨K4, t4, s, t, c, zt, tb, c0, cb, s0, sb, cs, rfl⟩
    walk_at "lb_go"
    refine c_draw (ns := [1, -1]) rfl rfl t4 (by decide) (by decide) rfl (by decide) fun g H5 hg k5 t5 => ?_
    have hg : g = 1 ∨ g = -1 := by simpa using hg
    have hm : CMulW t g := mulw (Nat.le_trans (show t.natAbs ≤ 10 ^ 22 by omega) (by decide)) (by omega)
    walk_at "lb_go"
    refine c_sz (by simp) fun lp nlp => ?_
    have K5 := kpx K4 k5
    have hn : lp ≠ st := t5.ne_none nlp
    refine k lp s (t * g) c z _ (kp_new K5 nlp) ((t5.same (Same.new nlp)).mono (by decide)) (fresh_kp K5 nlp (by simpa using hn)) upd_same ⟨hz, ?_, ?_, c0, cb, s0, sb⟩ cs
    · rcases hg with rfl | rfl <;> omega
    · rcases hg with rfl | rfl <;> omega
def sp__law_window (K : PySem.W.Frag) (A : Ad) : Sp := fun vs H Q E => ∃ (lp : Addr) (s t c z d : Int), vs = [.ref lp, .int d] ∧ H lp = some (.lst [.int s, .int t, .int c, .int z]) ∧ WinP s t c z ∧ ∀ w H', Same H H' → WinAt A H' w (s + d) t c z → Q (.ref w) H'
theorem sc__law_window : FnScope ["_law_parts_here", "_law_distance"] ["_law_parts_here", "_law_distance"] (defScope s__law_window) := ⟨rfl, rfl, rfl, by decide +kernel, rfl, by decide +kernel, by decide +kernel⟩
theorem ok__law_window (T : Txt P K mg A) : FnOk P w K mg base (L2.CX P w) 5 A.f__law_window A.d__law_window ["_law_parts_here", "_law_distance"] (sp__law_window K A) := by
  have G_Window___init__ : FnR P w K mg base (L2.CX P w) 3 A.f_Window___init__ (sp_Window___init__ K A) := FnOk.r0 (ok_Window___init__ T) T.b_Window___init__
  refine T.F__law_window.okX sc__law_window ?len (fun cdv Ar outer s H vs Q E hr h => ?_)
  case len => intro vs H Q E h; obtain ⟨_, _, _, _, _, _, rfl, _⟩ := h; rfl
  · refine ⟨_, ((pss_one (ps_ret (pe_makeX T.mk_Window G_Window___init__ (hr.mono (by decide)) rfl T.g_Window (fun σ => passAt (takes_of rfl rfl rfl rfl) σ) (pa_cons (pe_op op_addA (pe_ix ix_seq (pv 0) pe_int (fun _ _ => rfl)) (pv 1)) (pa_cons (pe_ix ix_seq (pv 0) pe_int (fun _ _ => rfl)) (pa_cons (pe_ix ix_seq (pv 0) pe_int (fun _ _ => rfl)) (pa_cons (pe_ix ix_seq (pv 0) pe_int (fun _ _ => rfl)) pa_nil)))))))), ?_⟩
    try dsimp only [cxOf]
    obtain ⟨lp, s, t, c, z, d, rfl, hl, ⟨hz, zt, tb, c0, cb, s0, sb⟩, k⟩ := h
    refine c_start (σ' := [some _, some _]) (by rfl) ?_
    walk_at "lb_go"
    exact mk_window (R := fun f H' => _) (by omega) c0 hz zt fun w H2 s2 w2 => k w H2 s2 w2
def sp__law_bytes (K : PySem.W.Frag) (A : Ad) : Sp := fun vs H Q E => ∃ (lp : Addr) (s t c z : Int), vs = [.ref lp] ∧ H lp = some (.lst [.int s, .int t, .int c, .int z]) ∧ WinP s t c z ∧ c ≤ 24 ∧
  ∀ l (bs : List Int) H', Same H H' → H' l = some (.lst (bs.map V.int)) → (∀ x, x ∈ bs ↔ InB s t c z x) → bs.length ≤ 100 → Q (.ref l) H'
theorem sc__law_bytes : FnScope ["_law_parts_here", "_law_out", "_law_k", "_law_d"] ["_law_parts_here"] (defScope s__law_bytes) := ⟨rfl, rfl, rfl, by decide +kernel, rfl, by decide +kernel, by decide +kernel⟩
theorem ok__law_bytes (T : Txt P K mg A) : FnOk P w K mg base (L2.CX P w) 1 A.f__law_bytes A.d__law_bytes ["_law_parts_here"] (sp__law_bytes K A) := by
  refine T.F__law_bytes.okX sc__law_bytes ?len (fun cdv Ar outer s H vs Q E hr h => ?_)
  case len => intro vs H Q E h; obtain ⟨_, _, _, _, _, rfl, _⟩ := h; rfl
  · refine ⟨_, ((pss_cons (ps_set (i := 1) sc__law_bytes.nd rfl (.inl rfl) (pe_lst pa_nil))
      (pss_cons (ps_for (passes_of rfl) rfl (pi_range1 rfl T.z_range (pa_cons (pe_ix ix_seq (pv 0) pe_int (fun _ _ => rfl)) pa_nil)) (pg_name (i := 2) sc__law_bytes.nd rfl (.inr rfl)) (pss_one (ps_expr (pe_bm PySem.F.plainAttrs_list PySem.F.slot_list_extend PySem.F.type_list_extend mt_extend (pv 1) (pa_cons (pe_lc (own := [("_law_d", 3)]) (g := gName 3) (tt := tYes) (by rfl) sc__law_bytes.nd (pi_range1 rfl T.z_range (pa_cons (pe_ix ix_seq (pv 0) pe_int (fun _ _ => rfl)) pa_nil)) (blkOk_by (own := [("_law_d", 3)]) (N := ["_law_parts_here", "_law_out", "_law_k", "_law_d"]) (sc := defScope s__law_bytes) (by decide +kernel)) (fun _ _ _ _ _ => pg_name (i := 3) sc__law_bytes.nd rfl (Or.inl rfl)) (fun _ _ _ _ _ => pts_nil) (fun _ _ _ _ _ => (pe_op (op_addK (K := K) rfl) (pe_op (op_addK (K := K) rfl) (pe_ix (ix_seqK (K := K) rfl) (pv 0) pe_int (fun _ _ => rfl)) (pe_op op_mulA (pv 2) (pe_ix (ix_seqK (K := K) rfl) (pv 0) pe_int (fun _ _ => rfl)))) (pv 3)))) pa_nil)))))
      (pss_one (ps_ret (pv 1)))))), ?_⟩
    try dsimp only [cxOf]
    obtain ⟨lp, s, t, c, z, rfl, hl, ⟨hz, zt, tb, c0, cb, s0, sb⟩, c24, k⟩ := h
    refine c_start (σ' := [some _, none, none, none]) (by rfl) ?_
    walk_at "lb_go"
    refine c_sz (by simp) fun l nl => ?_
    have sm := Same.new (o := .lst []) nl
    walk_at "lb_go"
    walk_at "lb_for"
    refine forR_of (by omega) (fun i σ H' => Same H H' ∧ ∃ (bs : List Int) (x2 : Option V), H' l = some (.lst (bs.map V.int)) ∧ bs.length ≤ 4 * i ∧ (∀ x, x ∈ bs ↔ ∃ d, 0 ≤ d ∧ d < z ∧ Pg s t (i : Int) d x) ∧ σ = [some (.ref lp), some (.ref l), x2, none]) ⟨sm, [], none, upd_same, by simp, fun x => ⟨fun h => (by cases h), fun ⟨d, _, _, j, _, _, _⟩ => (by omega)⟩, rfl⟩ (fun i σ' H' hi hh => ?_) (fun σ' H' hh => ?_)
    · obtain ⟨s1, bs, x2, e1, ln, mb, rfl⟩ := hh
      have hl1 := s1 _ _ hl
      have hm : CMulW (i : Int) t := mulw (Nat.le_trans (show (i : Int).natAbs ≤ 10 ^ 60 by omega) (by decide)) (Nat.le_trans tb (by decide))
      walk_at "lb_go"
      walk_at "lb_lc"
      refine lcR_pure (n := z) (fun j => .int (s + (i : Int) * t + (j : Int))) (by omega) (fun j H9 R hj s9 hR => ?_) (fun D hD => ?_)
      · walk_at "lb_go"
        refine ⟨rfl, ?_⟩
        have hl9 := s9 _ _ hl1
        walk_at "lb_go"
        exact hR
      · have sD := Same.new (o := .lst ((List.range z.toNat).map fun (j : Nat) => V.int (s + (i : Int) * t + (j : Int)))) hD
        have e2 := sD _ _ e1
        have eD : (upd H' D (.lst ((List.range z.toNat).map fun (j : Nat) => V.int (s + (i : Int) * t + (j : Int))))) D = _ := upd_same
        have lz : (bs.map V.int).length + ((List.range z.toNat).map fun (j : Nat) => V.int (s + (i : Int) * t + (j : Int))).length ≤ 100000 := by
          simp only [List.length_map, List.length_range]; omega
        walk_at "lb_go"
        refine ⟨Same.upd (Same.trans s1 sD) nl, bs ++ (List.range z.toNat).map (fun (j : Nat) => s + (i : Int) * t + (j : Int)), _, ?_, ?_, fun x => ?_, rfl⟩
        · rw [upd_same, List.map_append, List.map_map]; rfl
        · simp only [List.length_append, List.length_map, List.length_range]; omega
        · rw [List.mem_append, mb x]
          constructor
          · rintro (⟨d, d0, d1, j, j0, j1, e⟩ | h)
            · exact ⟨d, d0, d1, j, j0, by omega, e⟩
            · obtain ⟨j, hj, rfl⟩ := List.mem_map.mp h
              have := List.mem_range.mp hj
              exact ⟨j, by omega, by omega, i, by omega, by omega, rfl⟩
          · rintro ⟨d, d0, d1, j, j0, j1, e⟩
            by_cases q : j = i
            · refine .inr (List.mem_map.mpr ⟨d.toNat, List.mem_range.mpr (by omega), ?_⟩)
              rw [e, q]; omega
            · exact .inl ⟨d, d0, d1, j, j0, by omega, e⟩
    · obtain ⟨s1, bs, x2, e1, ln, mb, rfl⟩ := hh
      walk_at "lb_go"
      refine k l bs _ s1 e1 (fun x => ?_) (by omega)
      rw [mb x, show ((c.toNat : Nat) : Int) = c by omega]
      rfl
theorem WinP.k {s t c z : Int} (h : WinP s t c z) : WinK s t c z := by
  obtain ⟨hz, zt, tb, c0, cb, s0, sb⟩ := h
  exact ⟨by omega, by omega, by omega, by omega, c0, by omega, by omega⟩
theorem apart_none {s t c z t' c' z' f m : Int} (hz : z ≤ 4) (hz' : z' ≤ 4) (hf : 8 ≤ f) : ∀ x, ¬ (InB s (t * f) c z x ∧ InB (s + 4 + f * m) (t' * f) c' z' x) := by
  rintro x ⟨⟨d, d0, d1, k, k0, k1, e⟩, ⟨d', d0', d1', k', k0', k1', e'⟩⟩
  have h1 : (k * t - m - k' * t') * f = 4 + d' - d := by
    rw [Int.sub_mul, Int.sub_mul, Int.mul_assoc k, Int.mul_assoc k', Int.mul_comm m f]
    omega
  have h2 : k * t - m - k' * t' ≤ 0 ∨ 1 ≤ k * t - m - k' * t' := by omega
  rcases h2 with h2 | h2
  · have := Int.mul_nonneg (show 0 ≤ -(k * t - m - k' * t') by omega) (show 0 ≤ f by omega)
    rw [Int.neg_mul] at this
    omega
  · have := Int.mul_nonneg (show 0 ≤ k * t - m - k' * t' - 1 by omega) (show 0 ≤ f by omega)
    rw [Int.sub_mul, Int.one_mul] at this
    omega
def sp__law_apart (K : PySem.W.Frag) (A : Ad) : Sp := fun vs H Q E => ∃ (l1 l2 st : Addr) (n s t c z s' t' c' z' : Int), vs = [.ref l1, .ref l2, .ref st] ∧ H l1 = some (.lst [.int s, .int t, .int c, .int z]) ∧ H l2 = some (.lst [.int s', .int t', .int c', .int z']) ∧ l1 ≠ st ∧ l2 ≠ st ∧ StAt H st n ∧ 0 ≤ n ∧ n ≤ 1000 ∧
  WinP s t c z ∧ WinP s' t' c' z' ∧ ∀ H', Kp [st] H H' → StAt H' st (n + 2) → Q (.bl true) H'
theorem sc__law_apart : FnScope ["_law_one", "_law_two", "_law_state_here", "_law_factor", "_law_start", "_law_first", "_law_second"] ["_law_one", "_law_two", "_law_state_here"] (defScope s__law_apart) := ⟨rfl, rfl, rfl, by decide +kernel, rfl, by decide +kernel, by decide +kernel⟩
theorem ok__law_apart (T : Txt P K mg A) : FnOk P w K mg base (L2.CX P w) 5 A.f__law_apart A.d__law_apart ["_law_one", "_law_two", "_law_state_here"] (sp__law_apart K A) := by
  have G_Window___init__ : FnR P w K mg base (L2.CX P w) 3 A.f_Window___init__ (sp_Window___init__ K A) := FnOk.r0 (ok_Window___init__ T) T.b_Window___init__
  have G_Window_meets : FnR P w K mg base (L2.CX P w) 2 A.f_Window_meets (sp_Window_meets K A) := FnOk.r0 (ok_Window_meets T) T.b_Window_meets
  have G__law_pick : FnR P w K mg base (L2.CX P w) 1 A.f__law_pick (sp__law_pick K A) := FnOk.r0 (ok__law_pick T) T.b__law_pick
  refine T.F__law_apart.okX sc__law_apart ?len (fun cdv Ar outer s H vs Q E hr h => ?_)
  case len => intro vs H Q E h; obtain ⟨_, _, _, _, _, _, _, _, _, _, _, _, rfl, _⟩ := h; rfl
  · refine ⟨_, ((pss_cons (ps_set (i := 3) sc__law_apart.nd rfl (.inl rfl) (pe_op op_addA pe_int (pe_callX G__law_pick (hr.mono (by decide)) rfl T.g__law_pick T.kp__law_pick (fun σ => passAt (takes_of rfl rfl rfl rfl) σ) (pa_cons (pv 2) (pa_cons (pe_op op_powI pe_int pe_int) pa_nil)))))
      (pss_cons (ps_set (i := 4) sc__law_apart.nd rfl (.inl rfl) (pe_op op_addA (pe_op op_addA (pe_ix ix_seq (pv 0) pe_int (fun _ _ => rfl)) pe_int) (pe_op op_mulA (pv 3) (pe_callX G__law_pick (hr.mono (by decide)) rfl T.g__law_pick T.kp__law_pick (fun σ => passAt (takes_of rfl rfl rfl rfl) σ) (pa_cons (pv 2) (pa_cons (pe_op op_powI pe_int pe_int) pa_nil))))))
      (pss_cons (ps_set (i := 5) sc__law_apart.nd rfl (.inl rfl) (pe_makeX T.mk_Window G_Window___init__ (hr.mono (by decide)) rfl T.g_Window (fun σ => passAt (takes_of rfl rfl rfl rfl) σ) (pa_cons (pe_ix ix_seq (pv 0) pe_int (fun _ _ => rfl)) (pa_cons (pe_op op_mulA (pe_ix ix_seq (pv 0) pe_int (fun _ _ => rfl)) (pv 3)) (pa_cons (pe_ix ix_seq (pv 0) pe_int (fun _ _ => rfl)) (pa_cons (pe_ix ix_seq (pv 0) pe_int (fun _ _ => rfl)) pa_nil))))))
      (pss_cons (ps_set (i := 6) sc__law_apart.nd rfl (.inl rfl) (pe_makeX T.mk_Window G_Window___init__ (hr.mono (by decide)) rfl T.g_Window (fun σ => passAt (takes_of rfl rfl rfl rfl) σ) (pa_cons (pv 4) (pa_cons (pe_op op_mulA (pe_ix ix_seq (pv 1) pe_int (fun _ _ => rfl)) (pv 3)) (pa_cons (pe_ix ix_seq (pv 1) pe_int (fun _ _ => rfl)) (pa_cons (pe_ix ix_seq (pv 1) pe_int (fun _ _ => rfl)) pa_nil))))))
      (pss_one (ps_ret (pe_and (pe_cmpR op_is0 (pe_methX (pv 5) T.cl_Window T.mt_Window_meets G_Window_meets (hr.mono (by decide)) (fun σ => passAt (takes_of rfl rfl rfl rfl) σ) (pa_cons (pv 6) pa_nil)) pe_non (nomark _)) (pe_one (pe_cmpR op_is0 (pe_methX (pv 6) T.cl_Window T.mt_Window_meets G_Window_meets (hr.mono (by decide)) (fun σ => passAt (takes_of rfl rfl rfl rfl) σ) (pa_cons (pv 5) pa_nil)) pe_non (nomark _))))))))))), ?_⟩
    try dsimp only [cxOf]
    obtain ⟨l1, l2, st, n, s, t, c, z, s', t', c', z', rfl, h1, h2, n1, n2, t0, n0, nb, ⟨hz, zt, tb, c0, cb, s0, sb⟩, ⟨hz', zt', tb', c0', cb', s0', sb'⟩, k⟩ := h
    refine c_start (σ' := [some _, some _, some _, none, none, none, none]) (by rfl) ?_
    walk_at "lb_go"
    refine c_pick t0 (by omega) (by omega) (by decide) fun r1 H1 a1 b1 k1 t1 => ?_
    walk_at "lb_go"
    refine c_pick t1 (by omega) (by omega) (by decide) fun m H2 a2 b2 k2 t2 => ?_
    have K2 := kpx k1 k2
    obtain ⟨f, hf⟩ : ∃ f, f = 8 + r1 := ⟨_, rfl⟩
    rw [← hf]
    have m1 : CMulW f m := mulw (Nat.le_trans (show f.natAbs ≤ 10 ^ 60 by omega) (by decide)) (Nat.le_trans (show m.natAbs ≤ 10 ^ 60 by omega) (by decide))
    have m2 : CMulW t f := mulw (Nat.le_trans tb (by decide)) (Nat.le_trans (show f.natAbs ≤ 10 ^ 60 by omega) (by decide))
    have m3 : CMulW t' f := mulw (Nat.le_trans tb' (by decide)) (Nat.le_trans (show f.natAbs ≤ 10 ^ 60 by omega) (by decide))
    have p1 := prod_le (x := f) (y := m) (m := 10 ^ 10) (n := 10 ^ 10) (by omega) (by omega)
    have p2 := prod_le (x := t) (y := f) (m := 10 ^ 21) (n := 10 ^ 10) tb (by omega)
    have p3 := prod_le (x := t') (y := f) (m := 10 ^ 21) (n := 10 ^ 10) tb' (by omega)
    rw [show (10 : Nat) ^ 10 * 10 ^ 10 = 10 ^ 20 by decide] at p1
    rw [show (10 : Nat) ^ 21 * 10 ^ 10 = 10 ^ 31 by decide] at p2 p3
    have big : ∀ t : Int, t.natAbs ≤ (t * f).natAbs := fun t => by
      rw [Int.natAbs_mul]
      exact Nat.le_mul_of_pos_right _ (by omega)
    have q2 := big t
    have q3 := big t'
    walk_at "lb_go"
    refine mk_window (R := fun f H' => _) (by omega) c0 hz (by omega) fun w H3 s3 w3 => ?_
    walk_at "lb_go"
    refine mk_window (R := fun f H' => _) (by omega) c0' hz' (by omega) fun w' H4 s4 w4 => ?_
    have w3' := w3.same s4
    obtain ⟨dw, hw⟩ := id w3'
    obtain ⟨dw', hw'⟩ := id w4
    have k1 : WinK s (t * f) c z := ⟨by omega, by omega, by omega, by omega, c0, by omega, by omega⟩
    have k2 : WinK (s + 4 + f * m) (t' * f) c' z' := ⟨by omega, by omega, by omega, by omega, c0', by omega, by omega⟩
    have nn := apart_none (s := s) (t := t) (c := c) (z := z) (t' := t') (c' := c') (z' := z') (f := f) (m := m) (by omega) (by omega) (by omega)
    walk_at "lb_go"
    refine ⟨w, w', _, _, _, _, _, _, _, _, rfl, w3', w4, k1, k2, fun r H5 s5 b5 => ?_⟩
    obtain rfl := b5.none_of nn
    dsimp only [optV]
    have hw5 := s5 _ _ hw
    have hw5' := s5 _ _ hw'
    walk_at "lb_go"
    rw [decide_eq_true rfl]
    walk_at "lb_go"
    refine ⟨w', w, _, _, _, _, _, _, _, _, rfl, ⟨_, hw5'⟩, ⟨_, hw5⟩, k2, k1, fun r H6 s6 b6 => ?_⟩
    obtain rfl := b6.none_of fun x h => nn x ⟨h.2, h.1⟩
    dsimp only [optV]
    walk_at "lb_go"
    have s36 := Same.trans s3 (Same.trans s4 (Same.trans s5 s6))
    have t6 := t2.same s36
    rw [show n + 1 + 1 = n + 2 by omega] at t6
    exact k _ (kp_same K2 s36) t6
def sp__law_shared (K : PySem.W.Frag) (A : Ad) : Sp := fun vs H Q E => ∃ (l1 l2 st : Addr) (n s t c z s' t' c' z' : Int), vs = [.ref l1, .ref l2, .ref st] ∧ H l1 = some (.lst [.int s, .int t, .int c, .int z]) ∧ H l2 = some (.lst [.int s', .int t', .int c', .int z']) ∧ l1 ≠ st ∧ l2 ≠ st ∧ StAt H st n ∧ 0 ≤ n ∧ n ≤ 1000 ∧
  WinP s t c z ∧ WinP s' t' c' z' ∧ 0 < c ∧ 0 < c' ∧ ∀ H', Kp [st] H H' → StAt H' st (n + 4) → Q (.bl true) H'
theorem sc__law_shared : FnScope ["_law_one", "_law_two", "_law_state_here", "_law_byte", "_law_start", "_law_told"] ["_law_one", "_law_two", "_law_state_here"] (defScope s__law_shared) := ⟨rfl, rfl, rfl, by decide +kernel, rfl, by decide +kernel, by decide +kernel⟩
theorem ok__law_shared (T : Txt P K mg A) : FnOk P w K mg base (L2.CX P w) 6 A.f__law_shared A.d__law_shared ["_law_one", "_law_two", "_law_state_here"] (sp__law_shared K A) := by
  have G_Window___init__ : FnR P w K mg base (L2.CX P w) 3 A.f_Window___init__ (sp_Window___init__ K A) := FnOk.r0 (ok_Window___init__ T) T.b_Window___init__
  have G_Window_meets : FnR P w K mg base (L2.CX P w) 2 A.f_Window_meets (sp_Window_meets K A) := FnOk.r0 (ok_Window_meets T) T.b_Window_meets
  have G__law_has : FnR P w K mg base (L2.CX P w) 1 A.f__law_has (sp__law_has K A) := FnOk.r0 (ok__law_has T) T.b__law_has
  have G__law_pick : FnR P w K mg base (L2.CX P w) 1 A.f__law_pick (sp__law_pick K A) := FnOk.r0 (ok__law_pick T) T.b__law_pick
  have G__law_window : FnR P w K mg base (L2.CX P w) 5 A.f__law_window (sp__law_window K A) := FnOk.r0 (ok__law_window T) T.b__law_window
  refine T.F__law_shared.okX sc__law_shared ?len (fun cdv Ar outer s H vs Q E hr h => ?_)
  case len => intro vs H Q E h; obtain ⟨_, _, _, _, _, _, _, _, _, _, _, _, rfl, _⟩ := h; rfl
  · refine ⟨_, ((pss_cons (ps_set (i := 3) sc__law_shared.nd rfl (.inl rfl) (pe_op op_addA (pe_op op_addA (pe_ix ix_seq (pv 0) pe_int (fun _ _ => rfl)) (pe_op op_mulA (pe_callX G__law_pick (hr.mono (by decide)) rfl T.g__law_pick T.kp__law_pick (fun σ => passAt (takes_of rfl rfl rfl rfl) σ) (pa_cons (pv 2) (pa_cons (pe_ix ix_seq (pv 0) pe_int (fun _ _ => rfl)) pa_nil))) (pe_ix ix_seq (pv 0) pe_int (fun _ _ => rfl)))) (pe_callX G__law_pick (hr.mono (by decide)) rfl T.g__law_pick T.kp__law_pick (fun σ => passAt (takes_of rfl rfl rfl rfl) σ) (pa_cons (pv 2) (pa_cons (pe_ix ix_seq (pv 0) pe_int (fun _ _ => rfl)) pa_nil)))))
      (pss_cons (ps_set (i := 4) sc__law_shared.nd rfl (.inl rfl) (pe_op op_subI (pe_op op_subI (pv 3) (pe_op op_mulA (pe_callX G__law_pick (hr.mono (by decide)) rfl T.g__law_pick T.kp__law_pick (fun σ => passAt (takes_of rfl rfl rfl rfl) σ) (pa_cons (pv 2) (pa_cons (pe_ix ix_seq (pv 1) pe_int (fun _ _ => rfl)) pa_nil))) (pe_ix ix_seq (pv 1) pe_int (fun _ _ => rfl)))) (pe_callX G__law_pick (hr.mono (by decide)) rfl T.g__law_pick T.kp__law_pick (fun σ => passAt (takes_of rfl rfl rfl rfl) σ) (pa_cons (pv 2) (pa_cons (pe_ix ix_seq (pv 1) pe_int (fun _ _ => rfl)) pa_nil)))))
      (pss_cons (ps_set (i := 5) sc__law_shared.nd rfl (.inl rfl) (pe_methX (pe_callX G__law_window (hr.mono (by decide)) rfl T.g__law_window T.kp__law_window (fun σ => passAt (takes_of rfl rfl rfl rfl) σ) (pa_cons (pv 0) (pa_cons pe_int pa_nil))) T.cl_Window T.mt_Window_meets G_Window_meets (hr.mono (by decide)) (fun σ => passAt (takes_of rfl rfl rfl rfl) σ) (pa_cons (pe_makeX T.mk_Window G_Window___init__ (hr.mono (by decide)) rfl T.g_Window (fun σ => passAt (takes_of rfl rfl rfl rfl) σ) (pa_cons (pv 4) (pa_cons (pe_ix ix_seq (pv 1) pe_int (fun _ _ => rfl)) (pa_cons (pe_ix ix_seq (pv 1) pe_int (fun _ _ => rfl)) (pa_cons (pe_ix ix_seq (pv 1) pe_int (fun _ _ => rfl)) pa_nil))))) pa_nil)))
      (pss_one (ps_ret (pe_and (pe_cmpR op_isnt0 (pv 5) pe_non (nomark _)) (pe_and (pe_cmpR op_leI (pv 5) (pv 3) (nomark _)) (pe_and (pe_callX G__law_has (hr.mono (by decide)) rfl T.g__law_has T.kp__law_has (fun σ => passAt (takes_of rfl rfl rfl rfl) σ) (pa_cons (pv 0) (pa_cons (pv 5) pa_nil))) (pe_one (pe_callX G__law_has (hr.mono (by decide)) rfl T.g__law_has T.kp__law_has (fun σ => passAt (takes_of rfl rfl rfl rfl) σ) (pa_cons (pe_op op_addA (pe_lst (pa_cons (pv 4) pa_nil)) (pe_slice sl_any (pv 1) (po_some pe_int) po_none)) (pa_cons (pv 5) pa_nil))))))))))))), ?_⟩
    try dsimp only [cxOf]
    obtain ⟨l1, l2, st, n, s, t, c, z, s', t', c', z', rfl, h1, h2, n1, n2, t0, n0, nb, wp, wp', cp, cp', k⟩ := h
    obtain ⟨hz, zt, tb, c0, cb, s0, sb⟩ := id wp
    obtain ⟨hz', zt', tb', c0', cb', s0', sb'⟩ := id wp'
    refine c_start (σ' := [some _, some _, some _, none, none, none]) (by rfl) ?_
    walk_at "lb_go"
    refine c_pick t0 (by omega) (by omega) (by omega) fun r1 H1 a1 b1 k1 t1 => ?_
    have m1 : CMulW r1 t := mulw (Nat.le_trans (show r1.natAbs ≤ 10 ^ 60 by omega) (by decide)) (Nat.le_trans tb (by decide))
    walk_at "lb_go"
    refine c_pick t1 (by omega) (by omega) (by omega) fun d1 H2 a2 b2 k2 t2 => ?_
    walk_at "lb_go"
    refine c_pick t2 (by omega) (by omega) (by omega) fun r3 H3 a3 b3 k3 t3 => ?_
    have m3 : CMulW r3 t' := mulw (Nat.le_trans (show r3.natAbs ≤ 10 ^ 60 by omega) (by decide)) (Nat.le_trans tb' (by decide))
    walk_at "lb_go"
    refine c_pick t3 (by omega) (by omega) (by omega) fun d2 H4 a4 b4 k4 t4 => ?_
    have K4 := kpx (kpx (kpx k1 k2) k3) k4
    have p1 := prod_le (x := r1) (y := t) (m := 10 ^ 20) (n := 10 ^ 21) (by omega) tb
    have p3 := prod_le (x := r3) (y := t') (m := 10 ^ 20) (n := 10 ^ 21) (by omega) tb'
    rw [show (10 : Nat) ^ 20 * 10 ^ 21 = 10 ^ 41 by decide] at p1 p3
    obtain ⟨b, hb⟩ : ∃ b, b = s + r1 * t + d1 := ⟨_, rfl⟩
    obtain ⟨s2, hs2⟩ : ∃ s2, s2 = b - r3 * t' - d2 := ⟨_, rfl⟩
    have i1 : InB s t c z b := ⟨d1, a2, b2, r1, a1, b1, hb⟩
    have i2 : InB s2 t' c' z' b := ⟨d2, a4, b4, r3, a3, b3, by omega⟩
    walk_at "lb_go"
    rw [← hb, ← hs2]
    have h14 := K4 _ _ (ni_cons n1 ni0) h1
    have h24 := K4 _ _ (ni_cons n2 ni0) h2
    clear k1 k2 k3 k4 t0 t1 t2 t3 h1 h2
    walk_at "lb_go"
    refine ⟨l1, s, t, c, z, 0, rfl, h14, wp, fun w H5 s5 w5 => ?_⟩
    have h15 := s5 _ _ h14
    have h25 := s5 _ _ h24
    obtain ⟨dw, hw5⟩ := id w5
    walk_at "lb_go"
    refine mk_window (R := fun f H' => _) (by omega) c0' hz' (by omega) fun w' H6 s6 w6 => ?_
    have h16 := s6 _ _ h15
    have h26 := s6 _ _ h25
    have hw6 := s6 _ _ hw5
    rw [Int.add_zero] at hw6
    have wk := wp.k
    have wk2 : WinK s2 t' c' z' := ⟨by omega, by omega, by omega, by omega, c0', by omega, by omega⟩
    walk_at "lb_go"
    refine ⟨w, w', _, _, _, _, _, _, _, _, rfl, ⟨_, hw6⟩, w6, wk, wk2, fun r H7 s7 b7 => ?_⟩
    cases r with
    | none => exact absurd ⟨i1, i2⟩ (b7 b)
    | some m =>
      obtain ⟨⟨j1, j2⟩, jl⟩ := b7
      have le := jl b ⟨i1, i2⟩
      have mb : m.natAbs ≤ 10 ^ 100 := by
        obtain ⟨d, d0, dz, kk, k0, k1, e⟩ := j1
        have pp := prod_le (x := kk) (y := t) (m := 10 ^ 20) (n := 10 ^ 21) (by omega) tb
        rw [show (10 : Nat) ^ 20 * 10 ^ 21 = 10 ^ 41 by decide] at pp
        omega
      have h17 := s7 _ _ h16
      have h27 := s7 _ _ h26
      dsimp only [optV]
      walk_at "lb_go"
      rw [decide_eq_false (p := V.int m = V.non) (fun e => nomatch e)]
      walk_at "lb_go"
      rw [decide_eq_true le]
      walk_at "lb_go"
      refine ⟨l1, s, t, c, z, m, rfl, h17, wk, mb, fun _ => ?_, fun q => absurd j1 q⟩
      walk_at "lb_go"
      refine c_sz (by simp) fun l3 nl3 => ?_
      have s8 := Same.new (o := .lst [V.int s2]) nl3
      have h28 := s8 _ _ h27
      walk_at "lb_go"
      refine c_slL (SqL.of h28) fun l4 nl4 => ?_
      have s9 := Same.upd s8 (Same.free s8 nl4) (o := .lst (cutV [V.int s', .int t', .int c', .int z'] (some 1) none))
      walk_at "lb_go"
      have e3 : (upd (upd H7 l3 (.lst [V.int s2])) l4 (.lst (cutV [V.int s', .int t', .int c', .int z'] (some 1) none))) l3 = some (.lst [V.int s2]) := by walk_at "lb_h"
      refine c_cat (zs := [V.int t', .int c', .int z']) e3 upd_same (by simp) fun l5 nl5 => ?_
      have s10 := Same.upd s9 (Same.free s9 nl5) (o := .lst ([V.int s2] ++ [V.int t', .int c', .int z']))
      walk_at "lb_go"
      refine ⟨l5, s2, t', c', z', m, rfl, upd_same, wk2, mb, fun _ => ?_, fun q => absurd j2 q⟩
      have s50 := Same.trans s5 (Same.trans s6 (Same.trans s7 s10))
      have t9 := t4.same s50
      rw [show n + 1 + 1 + 1 + 1 = n + 4 by omega] at t9
      exact k _ (kp_same K4 s50) t9
def sp_Window___eq__ (K : PySem.W.Frag) (A : Ad) : Sp := fun vs H Q E => ∃ (p q : Addr) (a b c d a' b' c' d' : Int), vs = [.ref p, .ref q] ∧ WinAt A H p a b c d ∧ WinAt A H q a' b' c' d' ∧ Q (.bl (decide (a = a' ∧ b = b' ∧ c = c' ∧ d = d'))) H
theorem sc_Window___eq__ : FnScope ["self", "other"] ["self", "other"] (defScope s_Window___eq__) := ⟨rfl, rfl, rfl, by decide +kernel, rfl, by decide +kernel, by decide +kernel⟩
theorem ok_Window___eq__ (T : Txt P K mg A) : FnOk P w K mg base (L2.CX P w) 1 A.f_Window___eq__ A.d_Window___eq__ ["self", "other"] (sp_Window___eq__ K A) := by
  refine T.F_Window___eq__.okX sc_Window___eq__ ?len (fun cdv Ar outer s H vs Q E hr h => ?_)
  case len => intro vs H Q E h; obtain ⟨_, _, _, _, _, _, _, _, _, _, rfl, _⟩ := h; rfl
  · refine ⟨_, ((pss_cons (ps_if (PW.pt (pw_or (pt_not (pt_val (pe_callB call_isi (by rfl) T.z_isinstance (by decide +kernel) (pa_cons (pv 1) (pa_cons (pe_glob (by rfl) T.g_Window (v := .ref A.c_Window) rfl) pa_nil))) (by intro _; rfl))) (pw_or (pt_cmpR (op_neA (hr.units)) (pe_fld (pv 0) rfl) (pe_fld (pv 1) rfl) (nomark _)) (pw_or1 (pt_cmpR (op_neA (hr.units)) (pe_fld (pv 0) rfl) (pe_fld (pv 1) rfl) (nomark _)))))) (pss_one (ps_ret pe_bl)) pss_nil)
      (pss_one (ps_ret (pe_and (pe_cmpR (op_eqA (hr.units)) (pe_fld (pv 0) rfl) (pe_fld (pv 1) rfl) (nomark _)) (pe_one (pe_cmpR (op_eqA (hr.units)) (pe_fld (pv 0) rfl) (pe_fld (pv 1) rfl) (nomark _)))))))), ?_⟩
    try dsimp only [cxOf]
    obtain ⟨p, q, a, b, c, d, a', b', c', d', rfl, ⟨dx, h1⟩, ⟨dy, h2⟩, k⟩ := h
    refine c_start (σ' := [some _, some _]) (by rfl) ?_
    walk_at "lb_go"
    walk_at "lb_if"
    refine c_ifDN (fun e1 => ?_) (fun e1 => ?_)
    · walk_at "lb_go"
      have e : decide (a = a' ∧ b = b' ∧ c = c' ∧ d = d') = false := by simp [e1]
      rw [e] at k
      exact k
    walk_at "lb_go"
    refine c_ifDN (fun e2 => ?_) (fun e2 => ?_)
    · walk_at "lb_go"
      have e : decide (a = a' ∧ b = b' ∧ c = c' ∧ d = d') = false := by simp [e2]
      rw [e] at k
      exact k
    walk_at "lb_go"
    refine c_ifD (fun e3 => ?_) (fun e3 => ?_)
    · walk_at "lb_go"
      have e : decide (a = a' ∧ b = b' ∧ c = c' ∧ d = d') = decide (d = d') := by simp [e1, e2, e3]
      rw [e] at k
      exact k
    · have e : decide (a = a' ∧ b = b' ∧ c = c' ∧ d = d') = false := by simp [e3]
      rw [e] at k
      exact k
def sp__law_is_integer (K : PySem.W.Frag) (A : Ad) : Sp := fun vs H Q E => ∃ (n : Int), vs = [.int n] ∧ Q (.bl true) H
theorem sc__law_is_integer : FnScope ["_law_value"] ["_law_value"] (defScope s__law_is_integer) := ⟨rfl, rfl, rfl, by decide +kernel, rfl, by decide +kernel, by decide +kernel⟩
theorem ok__law_is_integer (T : Txt P K mg A) : FnOk P w K mg base (L2.CX P w) 1 A.f__law_is_integer A.d__law_is_integer ["_law_value"] (sp__law_is_integer K A) := by
  refine T.F__law_is_integer.okX sc__law_is_integer ?len (fun cdv Ar outer s H vs Q E hr h => ?_)
  case len => intro vs H Q E h; obtain ⟨_, rfl, _⟩ := h; rfl
  · refine ⟨_, ((pss_one (ps_ret (pe_and (pe_callB call_isi (by rfl) T.z_isinstance (by decide +kernel) (pa_cons (pv 0) (pa_cons (pe_bltn (v := .ty "int") (by rfl) T.z_int (by decide +kernel) rfl) pa_nil))) (pe_one (pe_not (pe_callB call_isi (by rfl) T.z_isinstance (by decide +kernel) (pa_cons (pv 0) (pa_cons (pe_bltn (v := .ty "bool") (by rfl) T.z_bool (by decide +kernel) rfl) pa_nil))))))))), ?_⟩
    try dsimp only [cxOf]
    obtain ⟨n, rfl, k⟩ := h
    refine c_start (σ' := [some _]) (by rfl) ?_
    walk_at "lb_go"
    exact k
def spLaw (K : PySem.W.Frag) : Sp := fun vs H Q _ => ∃ (a : Addr) (ns : List Int), vs = [.ref a] ∧ SqL K H a (ns.map V.int) ∧ ns.length ≤ 63 ∧ ∀ H', Q (.bl true) H'
def sp_law (K : PySem.W.Frag) (A : Ad) : Sp := fun vs H Q E => ∃ (a : Addr) (ns : List Int), vs = [.ref a] ∧ SqL K H a (ns.map V.int) ∧ ns.length ≤ 63 ∧ ∀ H', Q (.bl true) H'
theorem inV_ints {x : Int} {bs : List Int} : L2.inV (.int x) (bs.map V.int) = decide (x ∈ bs) := by
  unfold L2.inV
  rw [Bool.eq_iff_iff, List.any_eq_true, decide_eq_true_eq]
  constructor
  · rintro ⟨y, hy, e⟩
    obtain ⟨n, hn, rfl⟩ := List.mem_map.mp hy
    have : n = x := by simpa [eqV] using e
    rw [← this]; exact hn
  · intro h
    exact ⟨_, List.mem_map.mpr ⟨x, h, rfl⟩, by simp [eqV]⟩
theorem flat_ints {bs : List Int} : (bs.map V.int).all flatV = true := by
  rw [List.all_eq_true]
  intro v hv
  obtain ⟨n, _, rfl⟩ := List.mem_map.mp hv
  rfl
theorem eqv_nil {ns : List Int} : PyData.eqv (.list (ns.map PyData.int)) (.list []) = decide (ns = []) := by
  cases ns with
  | nil => rfl
  | cons n ns => simp [PyData.eqv, PyData.eqvAll]
theorem shift_best {s t c z s' t' c' z' d : Int} {r r' : Option Int} (h : Best (fun x => InB s t c z x ∧ InB s' t' c' z' x) r) (h' : Best (fun x => InB (s + d) t c z x ∧ InB (s' + d) t' c' z' x) r') : r' = r.map (· + d) := by
  have sh : ∀ s t c z x, InB (s + d) t c z (x + d) ↔ InB s t c z x := fun s t c z x => by
    constructor
    · rintro ⟨e, e0, e1, k, k0, k1, q⟩; exact ⟨e, e0, e1, k, k0, k1, by omega⟩
    · rintro ⟨e, e0, e1, k, k0, k1, q⟩; exact ⟨e, e0, e1, k, k0, k1, by omega⟩
  refine h'.uniq (fun x => Iff.rfl) ?_
  cases r with
  | none =>
    intro x hx
    apply h (x - d)
    have e : x = x - d + d := by omega
    rw [e] at hx
    exact ⟨(sh _ _ _ _ _).mp hx.1, (sh _ _ _ _ _).mp hx.2⟩
  | some m =>
    refine ⟨⟨(sh _ _ _ _ _).mpr h.1.1, (sh _ _ _ _ _).mpr h.1.2⟩, fun x hx => ?_⟩
    have e : x = x - d + d := by omega
    rw [e] at hx
    have := h.2 (x - d) ⟨(sh _ _ _ _ _).mp hx.1, (sh _ _ _ _ _).mp hx.2⟩
    show m + d ≤ x
    omega
theorem sc_law : FnScope ["_law_script", "_law_state_here", "_law_wide", "_law_one", "_law_two", "_law_first", "_law_second", "_law_told", "_law_others", "_law_shared_here", "_law_distance", "_law_again", "_law_byte"] ["_law_script"] (defScope s_law) := ⟨rfl, rfl, rfl, by decide +kernel, rfl, by decide +kernel, by decide +kernel⟩
theorem ok_law (T : Txt P K mg A) : FnOk P w K mg base (L2.CX P w) 7 A.f_law A.d_law ["_law_script"] (sp_law K A) := by
  have G_Window___contains__ : FnR P w K mg base (L2.CX P w) 2 A.f_Window___contains__ (sp_Window___contains__ K A) := FnOk.r0 (ok_Window___contains__ T) T.b_Window___contains__
  have G_Window___eq__ : FnR P w K mg base (L2.CX P w) 1 A.f_Window___eq__ (sp_Window___eq__ K A) := FnOk.r0 (ok_Window___eq__ T) T.b_Window___eq__
  have G_Window_meets : FnR P w K mg base (L2.CX P w) 2 A.f_Window_meets (sp_Window_meets K A) := FnOk.r0 (ok_Window_meets T) T.b_Window_meets
  have G__law_apart : FnR P w K mg base (L2.CX P w) 5 A.f__law_apart (sp__law_apart K A) := FnOk.r0 (ok__law_apart T) T.b__law_apart
  have G__law_bytes : FnR P w K mg base (L2.CX P w) 1 A.f__law_bytes (sp__law_bytes K A) := FnOk.r0 (ok__law_bytes T) T.b__law_bytes
  have G__law_has : FnR P w K mg base (L2.CX P w) 1 A.f__law_has (sp__law_has K A) := FnOk.r0 (ok__law_has T) T.b__law_has
  have G__law_is_integer : FnR P w K mg base (L2.CX P w) 1 A.f__law_is_integer (sp__law_is_integer K A) := FnOk.r0 (ok__law_is_integer T) T.b__law_is_integer
  have G__law_number : FnR P w K mg base (L2.CX P w) 1 A.f__law_number (sp__law_number K A) := FnOk.r0 (ok__law_number T) T.b__law_number
  have G__law_parts : FnR P w K mg base (L2.CX P w) 2 A.f__law_parts (sp__law_parts K A) := FnOk.r0 (ok__law_parts T) T.b__law_parts
  have G__law_pick : FnR P w K mg base (L2.CX P w) 1 A.f__law_pick (sp__law_pick K A) := FnOk.r0 (ok__law_pick T) T.b__law_pick
  have G__law_shared : FnR P w K mg base (L2.CX P w) 6 A.f__law_shared (sp__law_shared K A) := FnOk.r0 (ok__law_shared T) T.b__law_shared
  have G__law_state : FnR P w K mg base (L2.CX P w) 1 A.f__law_state (sp__law_state K A) := FnOk.r0 (ok__law_state T) T.b__law_state
  have G__law_window : FnR P w K mg base (L2.CX P w) 5 A.f__law_window (sp__law_window K A) := FnOk.r0 (ok__law_window T) T.b__law_window
  refine T.F_law.okX sc_law ?len (fun cdv Ar outer s H vs Q E hr h => ?_)
  case len => intro vs H Q E h; obtain ⟨_, _, rfl, _⟩ := h; rfl
  · refine ⟨_, ((pss_cons (ps_set (i := 1) sc_law.nd rfl (.inl rfl) (pe_callX G__law_state (hr.mono (by decide)) rfl T.g__law_state T.kp__law_state (fun σ => passAt (takes_of rfl rfl rfl rfl) σ) (pa_cons (pv 0) (pa_cons pe_int pa_nil))))
      (pss_cons (ps_set (i := 2) sc_law.nd rfl (.inl rfl) (pe_cmpR (op_eqA (hr.units)) (pe_callX G__law_pick (hr.mono (by decide)) rfl T.g__law_pick T.kp__law_pick (fun σ => passAt (takes_of rfl rfl rfl rfl) σ) (pa_cons (pv 1) (pa_cons pe_int pa_nil))) pe_int (nomark _)))
      (pss_cons (ps_set (i := 3) sc_law.nd rfl (.inl rfl) (pe_callX G__law_parts (hr.mono (by decide)) rfl T.g__law_parts T.kp__law_parts (fun σ => passAt (takes_of rfl rfl rfl rfl) σ) (pa_cons (pv 1) (pa_cons (pv 2) pa_nil))))
      (pss_cons (ps_set (i := 4) sc_law.nd rfl (.inl rfl) (pe_callX G__law_parts (hr.mono (by decide)) rfl T.g__law_parts T.kp__law_parts (fun σ => passAt (takes_of rfl rfl rfl rfl) σ) (pa_cons (pe_callX G__law_state (hr.mono (by decide)) rfl T.g__law_state T.kp__law_state (fun σ => passAt (takes_of rfl rfl rfl rfl) σ) (pa_cons (pv 0) (pa_cons pe_int pa_nil))) (pa_cons (pv 2) pa_nil))))
      (pss_cons (ps_if (pt_not (pt_val (pe_callX G__law_apart (hr.mono (by decide)) rfl T.g__law_apart T.kp__law_apart (fun σ => passAt (takes_of rfl rfl rfl rfl) σ) (pa_cons (pv 3) (pa_cons (pv 4) (pa_cons (pv 1) pa_nil)))) (by intro _; rfl))) (pss_one (ps_ret pe_bl)) pss_nil)
      (pss_cons (ps_if (PW.pt (pw_and (pt_cmpR op_gtI (pe_ix ix_seq (pv 3) pe_int (fun _ _ => rfl)) pe_int (nomark _)) (pw_and (pt_cmpR op_gtI (pe_ix ix_seq (pv 4) pe_int (fun _ _ => rfl)) pe_int (nomark _)) (pw_and1 (pt_not (pt_val (pe_callX G__law_shared (hr.mono (by decide)) rfl T.g__law_shared T.kp__law_shared (fun σ => passAt (takes_of rfl rfl rfl rfl) σ) (pa_cons (pv 3) (pa_cons (pv 4) (pa_cons (pv 1) pa_nil)))) (by intro _; rfl))))))) (pss_one (ps_ret pe_bl)) pss_nil)
      (pss_cons (ps_set (i := 5) sc_law.nd rfl (.inl rfl) (pe_callX G__law_window (hr.mono (by decide)) rfl T.g__law_window T.kp__law_window (fun σ => passAt (takes_of rfl rfl rfl rfl) σ) (pa_cons (pv 3) (pa_cons pe_int pa_nil))))
      (pss_cons (ps_set (i := 6) sc_law.nd rfl (.inl rfl) (pe_callX G__law_window (hr.mono (by decide)) rfl T.g__law_window T.kp__law_window (fun σ => passAt (takes_of rfl rfl rfl rfl) σ) (pa_cons (pv 4) (pa_cons pe_int pa_nil))))
      (pss_cons (ps_set (i := 7) sc_law.nd rfl (.inl rfl) (pe_methX (pv 5) T.cl_Window T.mt_Window_meets G_Window_meets (hr.mono (by decide)) (fun σ => passAt (takes_of rfl rfl rfl rfl) σ) (pa_cons (pv 6) pa_nil)))
      (pss_cons (ps_if (pt_cmpR op_isnt0 (pv 7) pe_non (nomark _)) (pss_cons (ps_if (PW.pt (pw_or (pt_not (pt_val (pe_callX G__law_is_integer (hr.mono (by decide)) rfl T.g__law_is_integer T.kp__law_is_integer (fun σ => passAt (takes_of rfl rfl rfl rfl) σ) (pa_cons (pv 7) pa_nil)) (by intro _; rfl))) (pw_or (pt_not (pt_val (pe_callX G__law_has (hr.mono (by decide)) rfl T.g__law_has T.kp__law_has (fun σ => passAt (takes_of rfl rfl rfl rfl) σ) (pa_cons (pv 3) (pa_cons (pv 7) pa_nil))) (by intro _; rfl))) (pw_or1 (pt_not (pt_val (pe_callX G__law_has (hr.mono (by decide)) rfl T.g__law_has T.kp__law_has (fun σ => passAt (takes_of rfl rfl rfl rfl) σ) (pa_cons (pv 4) (pa_cons (pv 7) pa_nil))) (by intro _; rfl))))))) (pss_one (ps_ret pe_bl)) pss_nil)
      (pss_one (ps_if (PW.pt (pw_or (pt_cmpR (op_ninOwn T.o_Window___contains__ G_Window___contains__ (hr.mono (by decide)) passL) (pv 7) (pv 5) rfl) (pw_or1 (pt_cmpR (op_ninOwn T.o_Window___contains__ G_Window___contains__ (hr.mono (by decide)) passL) (pv 7) (pv 6) rfl)))) (pss_one (ps_ret pe_bl)) pss_nil))) pss_nil)
      (pss_cons (ps_if (pt_not (pt_val (pv 2) (by intro _; rfl))) (pss_cons (ps_set (i := 8) sc_law.nd rfl (.inr rfl) (pe_callX G__law_bytes (hr.mono (by decide)) rfl T.g__law_bytes T.kp__law_bytes (fun σ => passAt (takes_of rfl rfl rfl rfl) σ) (pa_cons (pv 4) pa_nil)))
      (pss_cons (ps_setLc (i := 9) (own := [("_law_byte", 12)]) (g := gName 12) (by rfl) sc_law.nd rfl rfl (sw_true rfl rfl rfl (by decide +kernel)) (pi_list (pe_callX G__law_bytes (hr.mono (by decide)) rfl T.g__law_bytes T.kp__law_bytes (fun σ => passAt (takes_of rfl rfl rfl rfl) σ) (pa_cons (pv 3) pa_nil))) (blkOk_by (own := [("_law_byte", 12)]) (N := ["_law_script", "_law_state_here", "_law_wide", "_law_one", "_law_two", "_law_first", "_law_second", "_law_told", "_law_others", "_law_shared_here", "_law_distance", "_law_again", "_law_byte"]) (sc := defScope s_law) (by decide +kernel)) (fun _ _ _ _ _ => pg_name (i := 12) sc_law.nd rfl (Or.inl rfl)) (fun _ _ _ _ _ => (pts_one (pt_cmpR (op_inK (K := K) rfl) (pv 12) (pv 8) rfl))) (fun _ _ _ _ _ => (pv 12)))
      (pss_one (ps_if (PW.pt (pw_or (pt_cmpR (op_neA (hr.units)) (pe_cmpR op_is0 (pv 7) pe_non (nomark _)) (pe_cmpR (op_eqA (hr.units)) (pv 9) (pe_lst pa_nil) (nomark _)) (nomark _)) (pw_or1 (PW.pt (pw_and (pt_cmpR (op_neA (hr.units)) (pv 9) (pe_lst pa_nil) (nomark _)) (pw_and1 (pt_cmpR (op_neA (hr.units)) (pv 7) (pe_callB (cr_min rfl) (by rfl) T.z_min (by decide +kernel) (pa_cons (pv 9) pa_nil)) (nomark _)))))))) (pss_one (ps_ret pe_bl)) pss_nil)))) pss_nil)
      (pss_cons (ps_if (pt_cmpR (op_neA (hr.units)) (pe_methX (pv 6) T.cl_Window T.mt_Window_meets G_Window_meets (hr.mono (by decide)) (fun σ => passAt (takes_of rfl rfl rfl rfl) σ) (pa_cons (pv 5) pa_nil)) (pv 7) (nomark _)) (pss_one (ps_ret pe_bl)) pss_nil)
      (pss_cons (ps_set (i := 10) sc_law.nd rfl (.inl rfl) (pe_callX G__law_number (hr.mono (by decide)) rfl T.g__law_number T.kp__law_number (fun σ => passAt (takes_of rfl rfl rfl rfl) σ) (pa_cons (pv 0) (pa_cons pe_int pa_nil))))
      (pss_cons (ps_set (i := 11) sc_law.nd rfl (.inl rfl) (pe_methX (pe_callX G__law_window (hr.mono (by decide)) rfl T.g__law_window T.kp__law_window (fun σ => passAt (takes_of rfl rfl rfl rfl) σ) (pa_cons (pv 3) (pa_cons (pv 10) pa_nil))) T.cl_Window T.mt_Window_meets G_Window_meets (hr.mono (by decide)) (fun σ => passAt (takes_of rfl rfl rfl rfl) σ) (pa_cons (pe_callX G__law_window (hr.mono (by decide)) rfl T.g__law_window T.kp__law_window (fun σ => passAt (takes_of rfl rfl rfl rfl) σ) (pa_cons (pv 4) (pa_cons (pv 10) pa_nil))) pa_nil)))
      (pss_cons (ps_if (PW.pt (pw_and (pt_cmpR op_is0 (pv 7) pe_non (nomark _)) (pw_and1 (pt_cmpR op_isnt0 (pv 11) pe_non (nomark _))))) (pss_one (ps_ret pe_bl)) pss_nil)
      (pss_cons (ps_if (PW.pt (pw_and (pt_cmpR op_isnt0 (pv 7) pe_non (nomark _)) (pw_and1 (pt_cmpR (op_neA (hr.units)) (pv 11) (pe_op op_addA (pv 7) (pv 10)) (nomark _))))) (pss_one (ps_ret pe_bl)) pss_nil)
      (pss_one (ps_ret (pe_and (pe_cmpR (op_eqOwn T.o_Window___eq__ G_Window___eq__ (hr.mono (by decide)) passL) (pv 5) (pe_callX G__law_window (hr.mono (by decide)) rfl T.g__law_window T.kp__law_window (fun σ => passAt (takes_of rfl rfl rfl rfl) σ) (pa_cons (pv 3) (pa_cons pe_int pa_nil))) (nomark _)) (pe_one (pe_cmpR (op_eqOwn T.o_Window___eq__ G_Window___eq__ (hr.mono (by decide)) passL) (pv 6) (pe_callX G__law_window (hr.mono (by decide)) rfl T.g__law_window T.kp__law_window (fun σ => passAt (takes_of rfl rfl rfl rfl) σ) (pa_cons (pv 4) (pa_cons pe_int pa_nil))) (nomark _))))))))))))))))))))))), ?_⟩
    try dsimp only [cxOf]
    obtain ⟨a, ns, rfl, hS, hl, k⟩ := h
    refine c_start (σ' := [some _, none, none, none, none, none, none, none, none, none, none, none, none]) (by rfl) ?_
    walk_at "lb_go"
    refine ⟨a, ns, 0, rfl, hS, by decide, by decide, fun st H1 n1 s1 t1 => ?_⟩
    have N1 : ∀ b ∈ [st], H b = none := by simpa using n1
    have K1 : Kp [st] H H1 := Same.kp s1
    walk_at "lb_go"
    refine c_pick t1 (by decide) (by decide) (by decide) fun w0 H2 wa wb k2 t2 => ?_
    have K2 := kpx K1 k2
    walk_at "lb_go"
    obtain ⟨b, hb⟩ : ∃ b, b = decide (w0 = 0) := ⟨_, rfl⟩
    rw [← hb]
    refine ⟨st, _, b, rfl, t2, by decide, by decide, fun l1 s t c z H3 k3 t3 f1 h1 wp1 sm1 => ?_⟩
    have K3 := kpx K2 k3
    have n31 : l1 ≠ st := t2.ne_none f1
    walk_at "lb_go"
    refine ⟨a, ns, 1, rfl, sqKp hS N1 K3, by decide, by decide, fun s2 H4 n4 s4 t4 => ?_⟩
    walk_at "lb_go"
    refine ⟨s2, _, b, rfl, t4, by decide, by decide, fun l2 s' t' c' z' H5 k5 t5 f2 h2 wp2 sm2 => ?_⟩
    have n23 : s2 ≠ st := t3.ne_none n4
    have K5 := kp_own K3 s4 n4 k5
    have t35 : StAt H5 st 200 := (t3.same s4).kp k5 (by simpa using n23.symm)
    have h15 : H5 l1 = some (.lst [.int s, .int t, .int c, .int z]) := k5 _ _ (ni_cons (ne_of_none h1 n4) ni0) (s4 _ _ h1)
    have n52 : l2 ≠ st := fun q => by
      have := (t3.same s4).ne_none f2
      exact this q
    clear k2 K2 t2 k3 K3 t3 f1 h1 s4 t4 k5 f2 n4 t5 s1 n1 K1 t1
    walk_at "lb_go"
    walk_at "lb_if"
    refine ⟨l1, l2, st, _, s, t, c, z, s', t', c', z', rfl, h15, h2, n31, n52, t35, by decide, by decide, wp1, wp2, fun H6 k6 t6 => ?_⟩
    have K6 := kpx K5 k6
    have h16 := k6 _ _ (ni_cons n31 ni0) h15
    have h26 := k6 _ _ (ni_cons n52 ni0) h2
    clear k6 h15 h2 t35 K5
    walk_at "lb_go"
    (with_reducible refine c_cut (fun σ H' => Kp [st] H H' ∧ H' l1 = some (.lst [.int s, .int t, .int c, .int z]) ∧ H' l2 = some (.lst [.int s', .int t', .int c', .int z']) ∧ σ = [some (.ref a), some (.ref st), some (.bl b), some (.ref l1), some (.ref l2), none, none, none, none, none, none, none, none]) (fun σ H' => ?_) fun N hN => ?_)
    rotate_left
    · walk_at "lb_if"
      refine c_ifD (fun e1 => ?_) (fun e1 => ?_)
      · walk_at "lb_go"
        refine c_ifD (fun e2 => ?_) (fun e2 => ?_)
        · walk_at "lb_go"
          refine ⟨l1, l2, st, _, s, t, c, z, s', t', c', z', rfl, h16, h26, n31, n52, t6, by decide, by decide, wp1, wp2, e1, e2, fun H7 k7 t7 => ?_⟩
          walk_at "lb_go"
          exact hN _ _ ⟨kpx K6 k7, k7 _ _ (ni_cons n31 ni0) h16, k7 _ _ (ni_cons n52 ni0) h26, rfl⟩
        · walk_at "lb_go"
          exact hN _ _ ⟨K6, h16, h26, rfl⟩
      · walk_at "lb_go"
        exact hN _ _ ⟨K6, h16, h26, rfl⟩
    clear t6 K6 h16 h26
    rintro ⟨K6, h16, h26, rfl⟩
    walk_at "lb_go"
    refine ⟨l1, s, t, c, z, 0, rfl, h16, wp1, fun w1 H7 s7 w17 => ?_⟩
    walk_at "lb_go"
    refine ⟨l2, s', t', c', z', 0, rfl, s7 _ _ h26, wp2, fun w2 H8 s8 w28 => ?_⟩
    have s78 := Same.trans s7 s8
    obtain ⟨d1, hw1⟩ := w17.same s8
    obtain ⟨d2, hw2⟩ := w28
    rw [Int.add_zero] at hw1 hw2
    have h18 := s78 _ _ h16
    have h28 := s78 _ _ h26
    have K8 := kp_same K6 s78
    clear s7 s8 s78 h16 h26 K6 w17
    have wk1 := wp1.k
    have wk2 := wp2.k
    obtain ⟨hz1, hz1t, tb1, c10, cb1, s10, sb1⟩ := id wp1
    obtain ⟨hz2, hz2t, tb2, c20, cb2, s20, sb2⟩ := id wp2
    have tn1 : t ≠ 0 := by omega
    have tn2 : t' ≠ 0 := by omega
    walk_at "lb_go"
    refine ⟨w1, w2, s, t, c, z, s', t', c', z', rfl, ⟨_, hw1⟩, ⟨_, hw2⟩, wk1, wk2, fun r H9 s9 b9 => ?_⟩
    have hw19 := s9 _ _ hw1
    have hw29 := s9 _ _ hw2
    have h19 := s9 _ _ h18
    have h29 := s9 _ _ h28
    have K9 := kp_same K8 s9
    have rb : ∀ m, r = some m → m.natAbs ≤ 10 ^ 100 := fun m e => by
      subst e
      obtain ⟨⟨⟨d, d0, dz, kk, k0, k1, e⟩, _⟩, _⟩ := b9
      have pp := prod_le (x := kk) (y := t) (m := 10 ^ 20) (n := 10 ^ 21) (by omega) tb1
      rw [show (10 : Nat) ^ 20 * 10 ^ 21 = 10 ^ 41 by decide] at pp
      omega
    clear s9 hw1 hw2 h18 h28 K8
    walk_at "lb_go"
    (with_reducible refine c_cut (fun σ H' => Same H9 H' ∧ σ = [some (.ref a), some (.ref st), some (.bl b), some (.ref l1), some (.ref l2), some (.ref w1), some (.ref w2), some (optV r), none, none, none, none, none]) (fun σ H' => ?_) fun N hN => ?_)
    rotate_left
    · walk_at "lb_if"
      cases r with
      | none =>
        refine c_ifFN rfl ?_
        walk_at "lb_go"
        exact hN _ _ ⟨Same.refl _, rfl⟩
      | some m =>
        obtain ⟨⟨j1, j2⟩, jl⟩ := b9
        have mb := rb m rfl
        refine c_ifTN (fun e => nomatch e) ?_
        dsimp only [optV]
        walk_at "lb_go"
        walk_at "lb_if"
        refine ⟨m, rfl, ?_⟩
        walk_at "lb_go"
        refine ⟨l1, s, t, c, z, m, rfl, h19, wk1, mb, fun _ => ?_, fun q => absurd j1 q⟩
        walk_at "lb_go"
        refine ⟨l2, s', t', c', z', m, rfl, h29, wk2, mb, fun _ => ?_, fun q => absurd j2 q⟩
        walk_at "lb_go"
        walk_at "lb_if"
        refine ⟨w1, s, t, c, z, .int m, rfl, ⟨_, hw19⟩, .int _, tn1, by omega, by omega, by omega, ?_⟩
        rw [show inV s t c z (.int m) = true from inW_of tn1 j1]
        walk_at "lb_go"
        refine ⟨w2, s', t', c', z', .int m, rfl, ⟨_, hw29⟩, .int _, tn2, by omega, by omega, by omega, ?_⟩
        rw [show inV s' t' c' z' (.int m) = true from inW_of tn2 j2]
        walk_at "lb_go"
        exact hN _ _ ⟨Same.refl _, rfl⟩
    rintro ⟨s10, rfl⟩
    replace hw19 := s10 _ _ hw19
    replace hw29 := s10 _ _ hw29
    replace h19 := s10 _ _ h19
    replace h29 := s10 _ _ h29
    replace K9 := kp_same K9 s10
    clear s10
    (with_reducible refine c_cut (fun σ H'' => Same H' H'' ∧ ∃ x8 x9, σ = [some (.ref a), some (.ref st), some (.bl b), some (.ref l1), some (.ref l2), some (.ref w1), some (.ref w2), some (optV r), x8, x9, none, none, none]) (fun σ H'' => ?_) fun N hN => ?_)
    rotate_left
    · walk_at "lb_if"
      cases b with
      | true =>
        walk_at "lb_go"
        exact hN _ _ ⟨Same.refl _, _, _, rfl⟩
      | false =>
        walk_at "lb_go"
        refine ⟨l2, s', t', c', z', rfl, h29, wp2, sm2 rfl, fun lo bo H11 s11 e11 mo zo => ?_⟩
        have h111 := s11 _ _ h19
        walk_at "lb_go"
        walk_at "lb_lcL"
        refine ⟨l1, s, t, c, z, rfl, h111, wp1, sm1 rfl, fun li bi H12 s12 e12 mi zi => ?_⟩
        have e11' := s12 _ _ e11
        have s112 := Same.trans s11 s12
        walk_at "lb_go"
        refine ⟨⟨_, SqL.of e12⟩, lcL_of (xs := bi.map V.int) fun D hD => ⟨fun i H3 => Same H12 H3 ∧ H3 D = some (.lst (((bi.take i).filter fun x => decide (x ∈ bo)).map V.int)), ⟨Same.new hD, upd_same⟩, fun i H3 _ hp => SqL.of (hp.1 _ _ e12), fun i x H3 hx hp => ?_, fun H3 hp => ?_⟩⟩
        · obtain ⟨s13, e13⟩ := hp
          obtain ⟨y, hy, rfl⟩ : ∃ y, bi[i]? = some y ∧ x = .int y := by
            rw [List.getElem?_map] at hx
            cases q : bi[i]? with
            | none => rw [q] at hx; cases hx
            | some y => rw [q] at hx; exact ⟨y, rfl, by cases hx; rfl⟩
          have e11'' := s13 _ _ e11'
          walk_at "lb_go"
          refine ⟨rfl, ?_⟩
          walk_at "lb_go"
          refine c_inL (SqL.of e11'') rfl flat_ints inV_ints ?_
          have tk : bi.take (i + 1) = bi.take i ++ [y] := by rw [List.take_succ, hy]; rfl
          have lt : ((bi.take i).filter fun x => decide (x ∈ bo)).length ≤ 100 := Nat.le_trans (List.length_filter_le _ _) (by rw [List.length_take]; omega)
          refine ⟨_, rfl, ?_⟩
          by_cases yo : y ∈ bo
          · rw [decide_eq_true yo, if_pos rfl]
            walk_at "lb_go"
            refine ⟨_, e13, ?_, ?_, ?_⟩
            · rw [List.length_map]; exact Nat.lt_of_le_of_lt lt (by rw [sizeLine_eq]; decide)
            · exact Same.upd s13 hD
            · rw [upd_same, tk, List.filter_append, List.map_append]
              simp [yo]
          · rw [decide_eq_false yo, if_neg (by simp)]
            refine ⟨s13, ?_⟩
            rw [e13, tk, List.filter_append]
            simp [yo]
        · obtain ⟨s13, e13⟩ := hp
          rw [List.length_map, List.take_length] at e13
          have s113 := Same.trans s112 s13
          have bst : ∀ x, x ∈ (bi.filter fun x => decide (x ∈ bo)) ↔ InB s t c z x ∧ InB s' t' c' z' x := fun x => by
            rw [List.mem_filter, decide_eq_true_eq, mi x, mo x]
          generalize hF : (bi.filter fun x => decide (x ∈ bo)) = fs at e13 bst
          walk_at "lb_go"
          walk_at "lb_if"
          refine c_sz (by simp) fun l5 nl5 => ?_
          have e15 := Eq.trans (upd_ne (o := .lst []) (ne_of_none e13 nl5)) e13
          have s5 := Same.upd s113 (Same.free s113 nl5) (o := .lst [])
          refine c_eqD (.lst (SqL.of e15) dpInts) (.lst (SqL.of upd_same) .nil) shInts.1 rfl eqv_nil ?_
          cases r with
          | none =>
            have fe : fs = [] := by
              cases fs with
              | nil => rfl
              | cons y ys => exact absurd ((bst y).mp (by simp)) (b9 y)
            subst fe
            walk_at "lb_go"
            rw [show decide (optV none = V.non) = true from decide_eq_true rfl]
            walk_at "lb_go"
            rw [decide_eq_true (p := ([] : List Int) = []) rfl, decide_eq_true (p := true = true) rfl]
            walk_at "lb_go"
            refine c_sz (by simp) fun l6 nl6 => ?_
            have s6 := Same.upd s5 (Same.free s5 nl6) (o := .lst [])
            have e16 := Eq.trans (upd_ne (o := .lst []) (ne_of_none e15 nl6)) e15
            refine c_neD (.lst (SqL.of e16) .nil) (.lst (SqL.of upd_same) .nil) rfl rfl rfl ?_
            walk_at "lb_go"
            exact hN _ _ ⟨s6, _, _, rfl⟩
          | some m =>
            have fm : m ∈ fs := (bst m).mpr b9.1
            have fe : fs ≠ [] := fun q => by rw [q] at fm; cases fm
            rw [decide_eq_false fe, show decide (optV (some m) = V.non) = false from decide_eq_false fun e => nomatch e]
            walk_at "lb_go"
            rw [decide_eq_true (p := false = false) rfl]
            walk_at "lb_go"
            refine c_sz (by simp) fun l6 nl6 => ?_
            have s6 := Same.upd s5 (Same.free s5 nl6) (o := .lst [])
            have e16 := Eq.trans (upd_ne (o := .lst []) (ne_of_none e15 nl6)) e15
            refine c_neD (.lst (SqL.of e16) dpInts) (.lst (SqL.of upd_same) .nil) shInts.1 rfl eqv_nil ?_
            rw [decide_eq_false fe]
            walk_at "lb_go"
            refine ⟨_, fs, rfl, SqL.of e16, List.length_pos_iff.mpr fe, fun m2 hm2 hle => ?_⟩
            have e : m = m2 := by
              have h1 := b9.2 m2 ((bst m2).mp hm2)
              have h2 := hle m fm
              omega
            subst e
            dsimp only [optV]
            walk_at "lb_go"
            rw [decide_eq_true rfl]
            walk_at "lb_go"
            exact hN _ _ ⟨s6, _, _, rfl⟩
    rintro ⟨s11, x8, x9, rfl⟩
    replace hw19 := s11 _ _ hw19
    replace hw29 := s11 _ _ hw29
    replace h19 := s11 _ _ h19
    replace h29 := s11 _ _ h29
    replace K9 := kp_same K9 s11
    clear s11
    walk_at "lb_if"
    refine ⟨w2, w1, _, _, _, _, _, _, _, _, rfl, ⟨_, hw29⟩, ⟨_, hw19⟩, wk2, wk1, fun r2 H12 s12 b12 => ?_⟩
    obtain rfl : r2 = r := b12.uniq (fun x => And.comm) b9
    walk_at "lb_go"
    refine c_neV (by cases r2 <;> rfl) ?_
    rw [decide_eq_true rfl]
    walk_at "lb_go"
    replace hw19 := s12 _ _ hw19
    replace hw29 := s12 _ _ hw29
    replace h19 := s12 _ _ h19
    replace h29 := s12 _ _ h29
    replace K9 := kp_same K9 s12
    clear s12
    refine ⟨a, ns, _, rfl, sqKp hS N1 K9, by decide, fun dd l4 u4 => ?_⟩
    walk_at "lb_go"
    refine ⟨l1, s, t, c, z, dd, rfl, h19, wp1, fun w3 H13 s13 w313 => ?_⟩
    obtain ⟨d3, hw3⟩ := id w313
    walk_at "lb_go"
    refine ⟨l2, s', t', c', z', dd, rfl, s13 _ _ h29, wp2, fun w4 H14 s14 w414 => ?_⟩
    replace hw3 := s14 _ _ hw3
    obtain ⟨d4, hw4⟩ := id w414
    have s134 := Same.trans s13 s14
    replace hw19 := s134 _ _ hw19
    replace hw29 := s134 _ _ hw29
    replace h19 := s134 _ _ h19
    replace h29 := s134 _ _ h29
    clear s13 s14 s134 w313
    have wk3 : WinK (s + dd) t c z := ⟨by omega, by omega, by omega, by omega, c10, by omega, by omega⟩
    have wk4 : WinK (s' + dd) t' c' z' := ⟨by omega, by omega, by omega, by omega, c20, by omega, by omega⟩
    walk_at "lb_go"
    refine ⟨w3, w4, _, _, _, _, _, _, _, _, rfl, ⟨_, hw3⟩, w414, wk3, wk4, fun r3 H15 s15 b15 => ?_⟩
    obtain rfl := shift_best b9 b15
    replace hw19 := s15 _ _ hw19
    replace hw29 := s15 _ _ hw29
    replace h19 := s15 _ _ h19
    replace h29 := s15 _ _ h29
    walk_at "lb_go"
    (with_reducible refine c_cut2 (fun σ H'' => Same H15 H'' ∧ ∃ x11, σ = [some (.ref a), some (.ref st), some (.bl b), some (.ref l1), some (.ref l2), some (.ref w1), some (.ref w2), some (optV r2), x8, x9, some (.int dd), x11, none]) (fun σ H'' => ?_) fun N hN => ?_)
    rotate_left
    · cases r2 with
      | none =>
        walk_at "lb_if"
        rw [show decide (optV none = V.non) = true from decide_eq_true rfl]
        walk_at "lb_go"
        rw [show decide (optV (Option.map (fun x => x + dd) none) = V.non) = true from decide_eq_true rfl]
        walk_at "lb_go"
        walk_at "lb_if"
        rw [show decide (optV none = V.non) = true from decide_eq_true rfl]
        walk_at "lb_go"
        exact hN _ _ ⟨Same.refl _, _, rfl⟩
      | some m =>
        walk_at "lb_if"
        rw [show decide (optV (some m) = V.non) = false from decide_eq_false fun e => nomatch e]
        walk_at "lb_go"
        walk_at "lb_if"
        rw [show decide (optV (some m) = V.non) = false from decide_eq_false fun e => nomatch e]
        dsimp only [optV, Option.map]
        walk_at "lb_go"
        rw [decide_eq_true rfl]
        walk_at "lb_go"
        exact hN _ _ ⟨Same.refl _, _, rfl⟩
    rintro ⟨s16, x11, rfl⟩
    replace hw19 := s16 _ _ hw19
    replace hw29 := s16 _ _ hw29
    replace h19 := s16 _ _ h19
    replace h29 := s16 _ _ h29
    walk_at "lb_go"
    refine ⟨l1, s, t, c, z, 0, rfl, h19, wp1, fun w5 H17 s17 w517 => ?_⟩
    replace hw19 := s17 _ _ hw19
    replace hw29 := s17 _ _ hw29
    replace h29 := s17 _ _ h29
    obtain ⟨d5, hw5⟩ := id w517
    rw [Int.add_zero] at w517 hw5
    walk_at "lb_go"
    refine ⟨w1, w5, _, _, _, _, _, _, _, _, rfl, ⟨_, hw19⟩, w517, ?_⟩
    rw [decide_eq_true ⟨rfl, rfl, rfl, rfl⟩]
    walk_at "lb_go"
    refine ⟨l2, s', t', c', z', 0, rfl, h29, wp2, fun w6 H18 s18 w618 => ?_⟩
    replace hw29 := s18 _ _ hw29
    obtain ⟨d6, hw6⟩ := id w618
    rw [Int.add_zero] at w618 hw6
    walk_at "lb_go"
    refine ⟨w2, w6, _, _, _, _, _, _, _, _, rfl, ⟨_, hw29⟩, w618, ?_⟩
    rw [decide_eq_true ⟨rfl, rfl, rfl, rfl⟩]
    exact k _
end
/-! what the top has written -/
theorem all_mk {l : PySem.W.OpenLaw} {w : World} {K : PySem.W.Frag} {h : Heap} {mg : Str → Option Value} {fa c_BadWindow c_Window f_is_integer f_shared_number f_Window___init__ f_Window___eq__ f_Window___contains__ f_Window_progression f_Window_meets f__law_state f__law_pick f__law_number f__law_is_integer f__law_has f__law_parts f__law_bytes f__law_window f__law_apart f__law_shared f_law f_BadWindow___init__ cda_BadWindow cc_BadWindow : Addr} (X : K.In h) (G : h.Ns mainGlobals mg) (hfa : mg "law" = some (.ref fa))
    {od_is_integer an_is_integer od_shared_number an_shared_number od_Window___init__ an_Window___init__ od_Window___eq__ an_Window___eq__ od_Window___contains__ an_Window___contains__ od_Window_progression an_Window_progression od_Window_meets an_Window_meets od__law_state an__law_state od__law_pick an__law_pick od__law_number an__law_number od__law_is_integer an__law_is_integer od__law_has an__law_has od__law_parts an__law_parts od__law_bytes an__law_bytes od__law_window an__law_window od__law_apart an__law_apart od__law_shared an__law_shared od_law an_law od_BadWindow an_BadWindow cdd_BadWindow cld_BadWindow : Option Addr} {sl_is_integer sl_shared_number sl_Window___init__ sl_Window___eq__ sl_Window___contains__ sl_Window_progression sl_Window_meets sl__law_state sl__law_pick sl__law_number sl__law_is_integer sl__law_has sl__law_parts sl__law_bytes sl__law_window sl__law_apart sl__law_shared sl_law osl_BadWindow ccs_BadWindow csl_BadWindow : Array (Option Value)} {oc_is_integer kV_is_integer dc_is_integer pm_is_integer cd_is_integer ct_is_integer oc_shared_number kV_shared_number dc_shared_number pm_shared_number cd_shared_number ct_shared_number oc_Window___init__ kV_Window___init__ dc_Window___init__ pm_Window___init__ cd_Window___init__ ct_Window___init__ oc_Window___eq__ kV_Window___eq__ dc_Window___eq__ pm_Window___eq__ cd_Window___eq__ ct_Window___eq__ oc_Window___contains__ kV_Window___contains__ dc_Window___contains__ pm_Window___contains__ cd_Window___contains__ ct_Window___contains__ oc_Window_progression kV_Window_progression dc_Window_progression pm_Window_progression cd_Window_progression ct_Window_progression oc_Window_meets kV_Window_meets dc_Window_meets pm_Window_meets cd_Window_meets ct_Window_meets oc__law_state kV__law_state dc__law_state pm__law_state cd__law_state ct__law_state oc__law_pick kV__law_pick dc__law_pick pm__law_pick cd__law_pick ct__law_pick oc__law_number kV__law_number dc__law_number pm__law_number cd__law_number ct__law_number oc__law_is_integer kV__law_is_integer dc__law_is_integer pm__law_is_integer cd__law_is_integer ct__law_is_integer oc__law_has kV__law_has dc__law_has pm__law_has cd__law_has ct__law_has oc__law_parts kV__law_parts dc__law_parts pm__law_parts cd__law_parts ct__law_parts oc__law_bytes kV__law_bytes dc__law_bytes pm__law_bytes cd__law_bytes ct__law_bytes oc__law_window kV__law_window dc__law_window pm__law_window cd__law_window ct__law_window oc__law_apart kV__law_apart dc__law_apart pm__law_apart cd__law_apart ct__law_apart oc__law_shared kV__law_shared dc__law_shared pm__law_shared cd__law_shared ct__law_shared oc_law kV_law dc_law pm_law cd_law ct_law oc_BadWindow kV_BadWindow dc_BadWindow pm_BadWindow ct_BadWindow ccl_BadWindow cl_BadWindow : Value}
    {cvs_BadWindow : Array Value} {file_BadWindow : Str} {tf_BadWindow : Tok} {cd_BadWindow : ClassData}
    {nm_BadWindow q_BadWindow : Str} {N_BadWindow : Addr} {bs_BadWindow bm_BadWindow : List Value} {sn_BadWindow : List Str} {sub_BadWindow : List Value} {ab_BadWindow : Bool} {col_BadWindow : Option Bool} {dd_BadWindow : Option Addr} {k0_BadWindow k1_BadWindow k2_BadWindow k3_BadWindow k5_BadWindow : Option Value}
    (a_BadWindow : PySem.W.nsIn K mainGlobals "BadWindow" = some (some (.ref c_BadWindow)))
    (a_Window : PySem.W.nsIn K mainGlobals "Window" = some (some (.ref c_Window)))
    (pg_Window : PySem.W.plainGet K c_Window Str.empty = true)
    (hd_Window : PySem.W.hasDictIn K c_Window = true)
    (po_Window : PySem.W.plainOver K c_Window = true)
    (sa_Window : PySem.W.findIn K (.ref c_Window) "__setattr__" = some (some (.builtin "object.__setattr__")))
    (mk_Window : PySem.W.makesIn K c_Window = true)
    (kc_Window : PySem.W.keepIn K (.ref c_Window) = true)
    (na_Window_start : PySem.W.findIn K (.ref c_Window) "start" = some none)
    (na_Window_step : PySem.W.findIn K (.ref c_Window) "step" = some none)
    (na_Window_count : PySem.W.findIn K (.ref c_Window) "count" = some none)
    (na_Window_size : PySem.W.findIn K (.ref c_Window) "size" = some none)
    (i1_Window : PySem.W.findIn K (.ref c_Window) "__class__" = some (some (.builtin "object.__class__")))
    (i2_Window : PySem.W.specialIn K (.builtin "object.__class__") "__get__" = some (some (.builtin "getset_descriptor.__get__")))
    (i3_Window : PySem.W.takesIn K (.builtin "object.__class__") = some true)
    (i4_Window : PySem.W.mroIn K c_Window (.type "object") = some true)
    (i5_Window : PySem.W.kitOne K (.ref c_Window) (.ref c_Window) = some true)
    (a_is_integer : PySem.W.nsIn K mainGlobals "is_integer" = some (some (.ref f_is_integer)))
    (l_is_integer : K.lookup f_is_integer = some ⟨oc_is_integer, od_is_integer, .func (PySem.W.fnOf "is_integer" "is_integer" (defArgs s_is_integer) (defBody s_is_integer) (defScope s_is_integer) .none kV_is_integer dc_is_integer pm_is_integer an_is_integer cd_is_integer ct_is_integer), sl_is_integer⟩)
    (c_is_integer : PySem.W.codeIn K cd_is_integer "is_integer" = true)
    (k_is_integer : PySem.W.keepIn K (.ref f_is_integer) = true)
    (a_shared_number : PySem.W.nsIn K mainGlobals "shared_number" = some (some (.ref f_shared_number)))
    (l_shared_number : K.lookup f_shared_number = some ⟨oc_shared_number, od_shared_number, .func (PySem.W.fnOf "shared_number" "shared_number" (defArgs s_shared_number) (defBody s_shared_number) (defScope s_shared_number) .none kV_shared_number dc_shared_number pm_shared_number an_shared_number cd_shared_number ct_shared_number), sl_shared_number⟩)
    (c_shared_number : PySem.W.codeIn K cd_shared_number "shared_number" = true)
    (k_shared_number : PySem.W.keepIn K (.ref f_shared_number) = true)
    (a_Window___init__ : PySem.W.findIn K (.ref c_Window) "__init__" = some (some (.ref f_Window___init__)))
    (i_Window___init__ : PySem.W.isFn K (.ref f_Window___init__) = true)
    (l_Window___init__ : K.lookup f_Window___init__ = some ⟨oc_Window___init__, od_Window___init__, .func (PySem.W.fnOf "__init__" "Window.__init__" (defArgs s_Window___init__) (defBody s_Window___init__) (defScope s_Window___init__) .none kV_Window___init__ dc_Window___init__ pm_Window___init__ an_Window___init__ cd_Window___init__ ct_Window___init__), sl_Window___init__⟩)
    (c_Window___init__ : PySem.W.codeIn K cd_Window___init__ "Window.__init__" = true)
    (k_Window___init__ : PySem.W.keepIn K (.ref f_Window___init__) = true)
    (a_Window___eq__ : PySem.W.findIn K (.ref c_Window) "__eq__" = some (some (.ref f_Window___eq__)))
    (i_Window___eq__ : PySem.W.isFn K (.ref f_Window___eq__) = true)
    (l_Window___eq__ : K.lookup f_Window___eq__ = some ⟨oc_Window___eq__, od_Window___eq__, .func (PySem.W.fnOf "__eq__" "Window.__eq__" (defArgs s_Window___eq__) (defBody s_Window___eq__) (defScope s_Window___eq__) .none kV_Window___eq__ dc_Window___eq__ pm_Window___eq__ an_Window___eq__ cd_Window___eq__ ct_Window___eq__), sl_Window___eq__⟩)
    (c_Window___eq__ : PySem.W.codeIn K cd_Window___eq__ "Window.__eq__" = true)
    (k_Window___eq__ : PySem.W.keepIn K (.ref f_Window___eq__) = true)
    (a_Window___contains__ : PySem.W.findIn K (.ref c_Window) "__contains__" = some (some (.ref f_Window___contains__)))
    (i_Window___contains__ : PySem.W.isFn K (.ref f_Window___contains__) = true)
    (l_Window___contains__ : K.lookup f_Window___contains__ = some ⟨oc_Window___contains__, od_Window___contains__, .func (PySem.W.fnOf "__contains__" "Window.__contains__" (defArgs s_Window___contains__) (defBody s_Window___contains__) (defScope s_Window___contains__) .none kV_Window___contains__ dc_Window___contains__ pm_Window___contains__ an_Window___contains__ cd_Window___contains__ ct_Window___contains__), sl_Window___contains__⟩)
    (c_Window___contains__ : PySem.W.codeIn K cd_Window___contains__ "Window.__contains__" = true)
    (k_Window___contains__ : PySem.W.keepIn K (.ref f_Window___contains__) = true)
    (a_Window_progression : PySem.W.findIn K (.ref c_Window) "progression" = some (some (.ref f_Window_progression)))
    (i_Window_progression : PySem.W.isFn K (.ref f_Window_progression) = true)
    (l_Window_progression : K.lookup f_Window_progression = some ⟨oc_Window_progression, od_Window_progression, .func (PySem.W.fnOf "progression" "Window.progression" (defArgs s_Window_progression) (defBody s_Window_progression) (defScope s_Window_progression) .none kV_Window_progression dc_Window_progression pm_Window_progression an_Window_progression cd_Window_progression ct_Window_progression), sl_Window_progression⟩)
    (c_Window_progression : PySem.W.codeIn K cd_Window_progression "Window.progression" = true)
    (k_Window_progression : PySem.W.keepIn K (.ref f_Window_progression) = true)
    (a_Window_meets : PySem.W.findIn K (.ref c_Window) "meets" = some (some (.ref f_Window_meets)))
    (i_Window_meets : PySem.W.isFn K (.ref f_Window_meets) = true)
    (l_Window_meets : K.lookup f_Window_meets = some ⟨oc_Window_meets, od_Window_meets, .func (PySem.W.fnOf "meets" "Window.meets" (defArgs s_Window_meets) (defBody s_Window_meets) (defScope s_Window_meets) .none kV_Window_meets dc_Window_meets pm_Window_meets an_Window_meets cd_Window_meets ct_Window_meets), sl_Window_meets⟩)
    (c_Window_meets : PySem.W.codeIn K cd_Window_meets "Window.meets" = true)
    (k_Window_meets : PySem.W.keepIn K (.ref f_Window_meets) = true)
    (a__law_state : PySem.W.nsIn K mainGlobals "_law_state" = some (some (.ref f__law_state)))
    (l__law_state : K.lookup f__law_state = some ⟨oc__law_state, od__law_state, .func (PySem.W.fnOf "_law_state" "_law_state" (defArgs s__law_state) (defBody s__law_state) (defScope s__law_state) .none kV__law_state dc__law_state pm__law_state an__law_state cd__law_state ct__law_state), sl__law_state⟩)
    (c__law_state : PySem.W.codeIn K cd__law_state "_law_state" = true)
    (k__law_state : PySem.W.keepIn K (.ref f__law_state) = true)
    (a__law_pick : PySem.W.nsIn K mainGlobals "_law_pick" = some (some (.ref f__law_pick)))
    (l__law_pick : K.lookup f__law_pick = some ⟨oc__law_pick, od__law_pick, .func (PySem.W.fnOf "_law_pick" "_law_pick" (defArgs s__law_pick) (defBody s__law_pick) (defScope s__law_pick) .none kV__law_pick dc__law_pick pm__law_pick an__law_pick cd__law_pick ct__law_pick), sl__law_pick⟩)
    (c__law_pick : PySem.W.codeIn K cd__law_pick "_law_pick" = true)
    (k__law_pick : PySem.W.keepIn K (.ref f__law_pick) = true)
    (a__law_number : PySem.W.nsIn K mainGlobals "_law_number" = some (some (.ref f__law_number)))
    (l__law_number : K.lookup f__law_number = some ⟨oc__law_number, od__law_number, .func (PySem.W.fnOf "_law_number" "_law_number" (defArgs s__law_number) (defBody s__law_number) (defScope s__law_number) .none kV__law_number dc__law_number pm__law_number an__law_number cd__law_number ct__law_number), sl__law_number⟩)
    (c__law_number : PySem.W.codeIn K cd__law_number "_law_number" = true)
    (k__law_number : PySem.W.keepIn K (.ref f__law_number) = true)
    (a__law_is_integer : PySem.W.nsIn K mainGlobals "_law_is_integer" = some (some (.ref f__law_is_integer)))
    (l__law_is_integer : K.lookup f__law_is_integer = some ⟨oc__law_is_integer, od__law_is_integer, .func (PySem.W.fnOf "_law_is_integer" "_law_is_integer" (defArgs s__law_is_integer) (defBody s__law_is_integer) (defScope s__law_is_integer) .none kV__law_is_integer dc__law_is_integer pm__law_is_integer an__law_is_integer cd__law_is_integer ct__law_is_integer), sl__law_is_integer⟩)
    (c__law_is_integer : PySem.W.codeIn K cd__law_is_integer "_law_is_integer" = true)
    (k__law_is_integer : PySem.W.keepIn K (.ref f__law_is_integer) = true)
    (a__law_has : PySem.W.nsIn K mainGlobals "_law_has" = some (some (.ref f__law_has)))
    (l__law_has : K.lookup f__law_has = some ⟨oc__law_has, od__law_has, .func (PySem.W.fnOf "_law_has" "_law_has" (defArgs s__law_has) (defBody s__law_has) (defScope s__law_has) .none kV__law_has dc__law_has pm__law_has an__law_has cd__law_has ct__law_has), sl__law_has⟩)
    (c__law_has : PySem.W.codeIn K cd__law_has "_law_has" = true)
    (k__law_has : PySem.W.keepIn K (.ref f__law_has) = true)
    (a__law_parts : PySem.W.nsIn K mainGlobals "_law_parts" = some (some (.ref f__law_parts)))
    (l__law_parts : K.lookup f__law_parts = some ⟨oc__law_parts, od__law_parts, .func (PySem.W.fnOf "_law_parts" "_law_parts" (defArgs s__law_parts) (defBody s__law_parts) (defScope s__law_parts) .none kV__law_parts dc__law_parts pm__law_parts an__law_parts cd__law_parts ct__law_parts), sl__law_parts⟩)
    (c__law_parts : PySem.W.codeIn K cd__law_parts "_law_parts" = true)
    (k__law_parts : PySem.W.keepIn K (.ref f__law_parts) = true)
    (a__law_bytes : PySem.W.nsIn K mainGlobals "_law_bytes" = some (some (.ref f__law_bytes)))
    (l__law_bytes : K.lookup f__law_bytes = some ⟨oc__law_bytes, od__law_bytes, .func (PySem.W.fnOf "_law_bytes" "_law_bytes" (defArgs s__law_bytes) (defBody s__law_bytes) (defScope s__law_bytes) .none kV__law_bytes dc__law_bytes pm__law_bytes an__law_bytes cd__law_bytes ct__law_bytes), sl__law_bytes⟩)
    (c__law_bytes : PySem.W.codeIn K cd__law_bytes "_law_bytes" = true)
    (k__law_bytes : PySem.W.keepIn K (.ref f__law_bytes) = true)
    (a__law_window : PySem.W.nsIn K mainGlobals "_law_window" = some (some (.ref f__law_window)))
    (l__law_window : K.lookup f__law_window = some ⟨oc__law_window, od__law_window, .func (PySem.W.fnOf "_law_window" "_law_window" (defArgs s__law_window) (defBody s__law_window) (defScope s__law_window) .none kV__law_window dc__law_window pm__law_window an__law_window cd__law_window ct__law_window), sl__law_window⟩)
    (c__law_window : PySem.W.codeIn K cd__law_window "_law_window" = true)
    (k__law_window : PySem.W.keepIn K (.ref f__law_window) = true)
    (a__law_apart : PySem.W.nsIn K mainGlobals "_law_apart" = some (some (.ref f__law_apart)))
    (l__law_apart : K.lookup f__law_apart = some ⟨oc__law_apart, od__law_apart, .func (PySem.W.fnOf "_law_apart" "_law_apart" (defArgs s__law_apart) (defBody s__law_apart) (defScope s__law_apart) .none kV__law_apart dc__law_apart pm__law_apart an__law_apart cd__law_apart ct__law_apart), sl__law_apart⟩)
    (c__law_apart : PySem.W.codeIn K cd__law_apart "_law_apart" = true)
    (k__law_apart : PySem.W.keepIn K (.ref f__law_apart) = true)
    (a__law_shared : PySem.W.nsIn K mainGlobals "_law_shared" = some (some (.ref f__law_shared)))
    (l__law_shared : K.lookup f__law_shared = some ⟨oc__law_shared, od__law_shared, .func (PySem.W.fnOf "_law_shared" "_law_shared" (defArgs s__law_shared) (defBody s__law_shared) (defScope s__law_shared) .none kV__law_shared dc__law_shared pm__law_shared an__law_shared cd__law_shared ct__law_shared), sl__law_shared⟩)
    (c__law_shared : PySem.W.codeIn K cd__law_shared "_law_shared" = true)
    (k__law_shared : PySem.W.keepIn K (.ref f__law_shared) = true)
    (a_law : PySem.W.nsIn K mainGlobals "law" = some (some (.ref f_law)))
    (l_law : K.lookup f_law = some ⟨oc_law, od_law, .func (PySem.W.fnOf "law" "law" (defArgs s_law) (defBody s_law) (defScope s_law) .none kV_law dc_law pm_law an_law cd_law ct_law), sl_law⟩)
    (c_law : PySem.W.codeIn K cd_law "law" = true)
    (k_law : PySem.W.keepIn K (.ref f_law) = true)
    (x1_BadWindow : K.lookup c_BadWindow = some (excClassObj nm_BadWindow q_BadWindow c_BadWindow N_BadWindow bs_BadWindow bm_BadWindow true sn_BadWindow sub_BadWindow ab_BadWindow col_BadWindow dd_BadWindow k0_BadWindow k1_BadWindow k2_BadWindow k3_BadWindow k5_BadWindow "ValueError.__new__"))
    (x2_BadWindow : PySem.HandSPX.refsVE bm_BadWindow = true)
    (x3_BadWindow : PySem.W.findIn K (.ref c_BadWindow) "__setattr__" = some (some (.builtin "object.__setattr__")))
    (x4_BadWindow : PySem.W.subIn K (.ref c_BadWindow) (.type "BaseException") = some true)
    (x5_BadWindow : PySem.W.typeIn K (.ref c_BadWindow) = some (.type "type"))
    (x6_BadWindow : PySem.W.keepIn K (.ref c_BadWindow) = true)
    (x7_BadWindow : PySem.W.findIn K (.ref c_BadWindow) "__init__" = some (some (.ref f_BadWindow___init__)))
    (x8_BadWindow : PySem.W.typeIn K (.ref f_BadWindow___init__) = some (.type "function"))
    (x9_BadWindow : PySem.W.findIn K (.ref c_BadWindow) "__getattribute__" = some (some (.builtin "BaseException.__getattribute__")))
    (x10_BadWindow : PySem.W.findIn K (.ref c_BadWindow) "__getattr__" = some none)
    (x11_BadWindow : PySem.W.hasDictIn K c_BadWindow = true)
    (x12_BadWindow : PySem.W.findIn K (.ref c_BadWindow) "part" = some none)
    (x13_BadWindow : PySem.W.findIn K (.ref c_BadWindow) "__class__" = some (some (.builtin "object.__class__")))
    (x14_BadWindow : PySem.W.specialIn K (.builtin "object.__class__") "__get__" = some (some (.builtin "getset_descriptor.__get__")))
    (x15_BadWindow : PySem.W.takesIn K (.builtin "object.__class__") = some true)
    (x16_BadWindow : PySem.W.mroIn K c_BadWindow (.type "object") = some true)
    (x17_BadWindow : K.lookup f_BadWindow___init__ = some ⟨oc_BadWindow, od_BadWindow, .func (PySem.W.ksFn "__init__" "BadWindow.__init__" (defArgs s_BadWindow___init__) (defBody s_BadWindow___init__) (defScope s_BadWindow___init__) .none kV_BadWindow dc_BadWindow pm_BadWindow an_BadWindow (.ref cda_BadWindow) ct_BadWindow cc_BadWindow), osl_BadWindow⟩)
    (x18_BadWindow : PySem.W.codeIn K (.ref cda_BadWindow) "BadWindow.__init__" = true)
    (x19_BadWindow : K.lookup cda_BadWindow = some ⟨ccl_BadWindow, cdd_BadWindow, .fields cvs_BadWindow, ccs_BadWindow⟩)
    (x20_BadWindow : cvs_BadWindow[2]? = some (.str file_BadWindow tf_BadWindow))
    (x21_BadWindow : ((l.prog.main.file : Str) == file_BadWindow) = true)
    (x22_BadWindow : K.lookup cc_BadWindow = some ⟨cl_BadWindow, cld_BadWindow, .cell (some (.ref c_BadWindow)), csl_BadWindow⟩)
    (x23_BadWindow : PySem.W.clsIn K c_BadWindow = some cd_BadWindow)
    (x24_BadWindow : PySem.W.mroIn K c_BadWindow (.ref c_BadWindow) = some true)
    (x25_BadWindow : PySem.W.alongIn K "__init__" ((cd_BadWindow.mro.dropWhile (· != .ref c_BadWindow)).drop 1) = some (some (.builtin "ValueError.__init__")))
    (x26_BadWindow : PySem.W.subIn K (.ref c_BadWindow) (.type "ValueError") = some true)
    (x27_BadWindow : PySem.W.nsIn K cStatics "thirdparty.any" = some none)
    (x28_BadWindow : PySem.W.nsIn K mainGlobals "super" = some none)
    (x29_BadWindow : (l.prog.main.scope.names.lookup ("super" : Str)).isSome = false)
    (sf_Window : PySem.W.selfFirst K c_Window = true)
    (n_Window : PySem.W.findIn K (.ref c_Window) "__ne__" = some (some (.builtin "object.__ne__")))
    (z_abs : PySem.W.nsIn K mainGlobals "abs" = some none)
    (z_bool : PySem.W.nsIn K mainGlobals "bool" = some none)
    (z_int : PySem.W.nsIn K mainGlobals "int" = some none)
    (z_isinstance : PySem.W.nsIn K mainGlobals "isinstance" = some none)
    (z_len : PySem.W.nsIn K mainGlobals "len" = some none)
    (z_max : PySem.W.nsIn K mainGlobals "max" = some none)
    (z_min : PySem.W.nsIn K mainGlobals "min" = some none)
    (z_range : PySem.W.nsIn K mainGlobals "range" = some none)
    : ∃ fd : FuncData, (∀ (s : Shared) (v : Value), BindsTo s fd ⟨[v], []⟩ [("_law_script", v)]) ∧ ∀ base : Heap, K.In base → base.Ns mainGlobals mg → FnOk l.prog w K mg base (L2.CX l.prog w) 7 fa fd ["_law_script"] (spLaw K) := by
  have e := hfa.symm.trans (PySem.W.mg_of X G a_law)
  cases e
  have X_BadWindow : XTxt l.prog K mg "BadWindow" c_BadWindow f_BadWindow___init__ "part" := xtxt_mk (PySem.W.mg_of X G a_BadWindow) ⟨_, _, _, _, _, _, _, _, _, _, _, _, _, _, _, x1_BadWindow, x2_BadWindow⟩ x3_BadWindow x4_BadWindow x5_BadWindow x6_BadWindow x7_BadWindow x8_BadWindow x9_BadWindow x10_BadWindow x11_BadWindow x12_BadWindow x13_BadWindow x14_BadWindow x15_BadWindow x16_BadWindow x17_BadWindow x18_BadWindow x19_BadWindow x20_BadWindow x21_BadWindow x22_BadWindow x23_BadWindow x24_BadWindow x25_BadWindow x26_BadWindow x27_BadWindow (PySem.W.mg_none_of X G x28_BadWindow) x29_BadWindow rfl rfl ⟨by decide +kernel, by decide +kernel, by decide +kernel, by decide +kernel, rfl, by decide +kernel, rfl, rfl⟩ (by decide +kernel) (by decide +kernel) rfl (fun s u v => .of_eq rfl)
  have T : Txt l.prog K mg ⟨c_BadWindow, c_Window, f_is_integer, PySem.W.fnOf "is_integer" "is_integer" (defArgs s_is_integer) (defBody s_is_integer) (defScope s_is_integer) .none kV_is_integer dc_is_integer pm_is_integer an_is_integer cd_is_integer ct_is_integer, f_shared_number, PySem.W.fnOf "shared_number" "shared_number" (defArgs s_shared_number) (defBody s_shared_number) (defScope s_shared_number) .none kV_shared_number dc_shared_number pm_shared_number an_shared_number cd_shared_number ct_shared_number, f_Window___init__, PySem.W.fnOf "__init__" "Window.__init__" (defArgs s_Window___init__) (defBody s_Window___init__) (defScope s_Window___init__) .none kV_Window___init__ dc_Window___init__ pm_Window___init__ an_Window___init__ cd_Window___init__ ct_Window___init__, f_Window___eq__, PySem.W.fnOf "__eq__" "Window.__eq__" (defArgs s_Window___eq__) (defBody s_Window___eq__) (defScope s_Window___eq__) .none kV_Window___eq__ dc_Window___eq__ pm_Window___eq__ an_Window___eq__ cd_Window___eq__ ct_Window___eq__, f_Window___contains__, PySem.W.fnOf "__contains__" "Window.__contains__" (defArgs s_Window___contains__) (defBody s_Window___contains__) (defScope s_Window___contains__) .none kV_Window___contains__ dc_Window___contains__ pm_Window___contains__ an_Window___contains__ cd_Window___contains__ ct_Window___contains__, f_Window_progression, PySem.W.fnOf "progression" "Window.progression" (defArgs s_Window_progression) (defBody s_Window_progression) (defScope s_Window_progression) .none kV_Window_progression dc_Window_progression pm_Window_progression an_Window_progression cd_Window_progression ct_Window_progression, f_Window_meets, PySem.W.fnOf "meets" "Window.meets" (defArgs s_Window_meets) (defBody s_Window_meets) (defScope s_Window_meets) .none kV_Window_meets dc_Window_meets pm_Window_meets an_Window_meets cd_Window_meets ct_Window_meets, f__law_state, PySem.W.fnOf "_law_state" "_law_state" (defArgs s__law_state) (defBody s__law_state) (defScope s__law_state) .none kV__law_state dc__law_state pm__law_state an__law_state cd__law_state ct__law_state, f__law_pick, PySem.W.fnOf "_law_pick" "_law_pick" (defArgs s__law_pick) (defBody s__law_pick) (defScope s__law_pick) .none kV__law_pick dc__law_pick pm__law_pick an__law_pick cd__law_pick ct__law_pick, f__law_number, PySem.W.fnOf "_law_number" "_law_number" (defArgs s__law_number) (defBody s__law_number) (defScope s__law_number) .none kV__law_number dc__law_number pm__law_number an__law_number cd__law_number ct__law_number, f__law_is_integer, PySem.W.fnOf "_law_is_integer" "_law_is_integer" (defArgs s__law_is_integer) (defBody s__law_is_integer) (defScope s__law_is_integer) .none kV__law_is_integer dc__law_is_integer pm__law_is_integer an__law_is_integer cd__law_is_integer ct__law_is_integer, f__law_has, PySem.W.fnOf "_law_has" "_law_has" (defArgs s__law_has) (defBody s__law_has) (defScope s__law_has) .none kV__law_has dc__law_has pm__law_has an__law_has cd__law_has ct__law_has, f__law_parts, PySem.W.fnOf "_law_parts" "_law_parts" (defArgs s__law_parts) (defBody s__law_parts) (defScope s__law_parts) .none kV__law_parts dc__law_parts pm__law_parts an__law_parts cd__law_parts ct__law_parts, f__law_bytes, PySem.W.fnOf "_law_bytes" "_law_bytes" (defArgs s__law_bytes) (defBody s__law_bytes) (defScope s__law_bytes) .none kV__law_bytes dc__law_bytes pm__law_bytes an__law_bytes cd__law_bytes ct__law_bytes, f__law_window, PySem.W.fnOf "_law_window" "_law_window" (defArgs s__law_window) (defBody s__law_window) (defScope s__law_window) .none kV__law_window dc__law_window pm__law_window an__law_window cd__law_window ct__law_window, f__law_apart, PySem.W.fnOf "_law_apart" "_law_apart" (defArgs s__law_apart) (defBody s__law_apart) (defScope s__law_apart) .none kV__law_apart dc__law_apart pm__law_apart an__law_apart cd__law_apart ct__law_apart, f__law_shared, PySem.W.fnOf "_law_shared" "_law_shared" (defArgs s__law_shared) (defBody s__law_shared) (defScope s__law_shared) .none kV__law_shared dc__law_shared pm__law_shared an__law_shared cd__law_shared ct__law_shared, fa, PySem.W.fnOf "law" "law" (defArgs s_law) (defBody s_law) (defScope s_law) .none kV_law dc_law pm_law an_law cd_law ct_law, f_BadWindow___init__⟩ := {
    F_is_integer := fun_mk (st := s_is_integer) l_is_integer c_is_integer k_is_integer,
    b_is_integer := (fun_mk (st := s_is_integer) l_is_integer c_is_integer k_is_integer).binds (ps := ["value", "low", "high"]) fun _ _ _ _ _ _ us hl => match us, hl with | [_, _, _], _ => rfl,
    g_is_integer := PySem.W.mg_of X G a_is_integer,
    kp_is_integer := k_is_integer,
    F_shared_number := fun_mk (st := s_shared_number) l_shared_number c_shared_number k_shared_number,
    b_shared_number := (fun_mk (st := s_shared_number) l_shared_number c_shared_number k_shared_number).binds (ps := ["low", "step", "high", "other_low", "other_step", "other_high"]) fun _ _ _ _ _ _ us hl => match us, hl with | [_, _, _, _, _, _], _ => rfl,
    g_shared_number := PySem.W.mg_of X G a_shared_number,
    kp_shared_number := k_shared_number,
    F_Window___init__ := fun_mk (st := s_Window___init__) l_Window___init__ c_Window___init__ k_Window___init__,
    b_Window___init__ := (fun_mk (st := s_Window___init__) l_Window___init__ c_Window___init__ k_Window___init__).binds (ps := ["self", "start", "step", "count", "size"]) fun _ _ _ _ _ _ us hl => match us, hl with | [_, _, _, _, _], _ => rfl,
    mt_Window___init__ := ⟨a_Window___init__, i_Window___init__, k_Window___init__⟩,
    F_Window___eq__ := fun_mk (st := s_Window___eq__) l_Window___eq__ c_Window___eq__ k_Window___eq__,
    b_Window___eq__ := (fun_mk (st := s_Window___eq__) l_Window___eq__ c_Window___eq__ k_Window___eq__).binds (ps := ["self", "other"]) fun _ _ _ _ _ _ us hl => match us, hl with | [_, _], _ => rfl,
    mt_Window___eq__ := ⟨a_Window___eq__, i_Window___eq__, k_Window___eq__⟩,
    F_Window___contains__ := fun_mk (st := s_Window___contains__) l_Window___contains__ c_Window___contains__ k_Window___contains__,
    b_Window___contains__ := (fun_mk (st := s_Window___contains__) l_Window___contains__ c_Window___contains__ k_Window___contains__).binds (ps := ["self", "place"]) fun _ _ _ _ _ _ us hl => match us, hl with | [_, _], _ => rfl,
    mt_Window___contains__ := ⟨a_Window___contains__, i_Window___contains__, k_Window___contains__⟩,
    F_Window_progression := fun_mk (st := s_Window_progression) l_Window_progression c_Window_progression k_Window_progression,
    b_Window_progression := (fun_mk (st := s_Window_progression) l_Window_progression c_Window_progression k_Window_progression).binds (ps := ["self", "d"]) fun _ _ _ _ _ _ us hl => match us, hl with | [_, _], _ => rfl,
    mt_Window_progression := ⟨a_Window_progression, i_Window_progression, k_Window_progression⟩,
    F_Window_meets := fun_mk (st := s_Window_meets) l_Window_meets c_Window_meets k_Window_meets,
    b_Window_meets := (fun_mk (st := s_Window_meets) l_Window_meets c_Window_meets k_Window_meets).binds (ps := ["self", "other"]) fun _ _ _ _ _ _ us hl => match us, hl with | [_, _], _ => rfl,
    mt_Window_meets := ⟨a_Window_meets, i_Window_meets, k_Window_meets⟩,
    F__law_state := fun_mk (st := s__law_state) l__law_state c__law_state k__law_state,
    b__law_state := (fun_mk (st := s__law_state) l__law_state c__law_state k__law_state).binds (ps := ["_law_script", "_law_k"]) fun _ _ _ _ _ _ us hl => match us, hl with | [_, _], _ => rfl,
    g__law_state := PySem.W.mg_of X G a__law_state,
    kp__law_state := k__law_state,
    F__law_pick := fun_mk (st := s__law_pick) l__law_pick c__law_pick k__law_pick,
    b__law_pick := (fun_mk (st := s__law_pick) l__law_pick c__law_pick k__law_pick).binds (ps := ["_law_state_here", "_law_many"]) fun _ _ _ _ _ _ us hl => match us, hl with | [_, _], _ => rfl,
    g__law_pick := PySem.W.mg_of X G a__law_pick,
    kp__law_pick := k__law_pick,
    F__law_number := fun_mk (st := s__law_number) l__law_number c__law_number k__law_number,
    b__law_number := (fun_mk (st := s__law_number) l__law_number c__law_number k__law_number).binds (ps := ["_law_script", "_law_k"]) fun _ _ _ _ _ _ us hl => match us, hl with | [_, _], _ => rfl,
    g__law_number := PySem.W.mg_of X G a__law_number,
    kp__law_number := k__law_number,
    F__law_is_integer := fun_mk (st := s__law_is_integer) l__law_is_integer c__law_is_integer k__law_is_integer,
    b__law_is_integer := (fun_mk (st := s__law_is_integer) l__law_is_integer c__law_is_integer k__law_is_integer).binds (ps := ["_law_value"]) fun _ _ _ _ _ _ us hl => match us, hl with | [_], _ => rfl,
    g__law_is_integer := PySem.W.mg_of X G a__law_is_integer,
    kp__law_is_integer := k__law_is_integer,
    F__law_has := fun_mk (st := s__law_has) l__law_has c__law_has k__law_has,
    b__law_has := (fun_mk (st := s__law_has) l__law_has c__law_has k__law_has).binds (ps := ["_law_parts_here", "_law_byte"]) fun _ _ _ _ _ _ us hl => match us, hl with | [_, _], _ => rfl,
    g__law_has := PySem.W.mg_of X G a__law_has,
    kp__law_has := k__law_has,
    F__law_parts := fun_mk (st := s__law_parts) l__law_parts c__law_parts k__law_parts,
    b__law_parts := (fun_mk (st := s__law_parts) l__law_parts c__law_parts k__law_parts).binds (ps := ["_law_state_here", "_law_wide"]) fun _ _ _ _ _ _ us hl => match us, hl with | [_, _], _ => rfl,
    g__law_parts := PySem.W.mg_of X G a__law_parts,
    kp__law_parts := k__law_parts,
    F__law_bytes := fun_mk (st := s__law_bytes) l__law_bytes c__law_bytes k__law_bytes,
    b__law_bytes := (fun_mk (st := s__law_bytes) l__law_bytes c__law_bytes k__law_bytes).binds (ps := ["_law_parts_here"]) fun _ _ _ _ _ _ us hl => match us, hl with | [_], _ => rfl,
    g__law_bytes := PySem.W.mg_of X G a__law_bytes,
    kp__law_bytes := k__law_bytes,
    F__law_window := fun_mk (st := s__law_window) l__law_window c__law_window k__law_window,
    b__law_window := (fun_mk (st := s__law_window) l__law_window c__law_window k__law_window).binds (ps := ["_law_parts_here", "_law_distance"]) fun _ _ _ _ _ _ us hl => match us, hl with | [_, _], _ => rfl,
    g__law_window := PySem.W.mg_of X G a__law_window,
    kp__law_window := k__law_window,
    F__law_apart := fun_mk (st := s__law_apart) l__law_apart c__law_apart k__law_apart,
    b__law_apart := (fun_mk (st := s__law_apart) l__law_apart c__law_apart k__law_apart).binds (ps := ["_law_one", "_law_two", "_law_state_here"]) fun _ _ _ _ _ _ us hl => match us, hl with | [_, _, _], _ => rfl,
    g__law_apart := PySem.W.mg_of X G a__law_apart,
    kp__law_apart := k__law_apart,
    F__law_shared := fun_mk (st := s__law_shared) l__law_shared c__law_shared k__law_shared,
    b__law_shared := (fun_mk (st := s__law_shared) l__law_shared c__law_shared k__law_shared).binds (ps := ["_law_one", "_law_two", "_law_state_here"]) fun _ _ _ _ _ _ us hl => match us, hl with | [_, _, _], _ => rfl,
    g__law_shared := PySem.W.mg_of X G a__law_shared,
    kp__law_shared := k__law_shared,
    F_law := fun_mk (st := s_law) l_law c_law k_law,
    b_law := (fun_mk (st := s_law) l_law c_law k_law).binds (ps := ["_law_script"]) fun _ _ _ _ _ _ us hl => match us, hl with | [_], _ => rfl,
    g_law := PySem.W.mg_of X G a_law,
    kp_law := k_law,
    g_BadWindow := PySem.W.mg_of X G a_BadWindow,
    g_Window := PySem.W.mg_of X G a_Window,
    cl_Window := ⟨pg_Window, hd_Window, po_Window, sa_Window⟩,
    mk_Window := ⟨mk_Window, a_Window___init__, i_Window___init__, kc_Window⟩,
    na_Window_start := na_Window_start,
    na_Window_step := na_Window_step,
    na_Window_count := na_Window_count,
    na_Window_size := na_Window_size,
    ic_Window := ⟨⟨pg_Window, hd_Window, po_Window, sa_Window⟩, i1_Window, i2_Window, i3_Window, i4_Window, i5_Window⟩,
    x_BadWindow := X_BadWindow,
    sf_Window := sf_Window,
    n_Window := n_Window,
    m_Window := i4_Window,
    o_Window___contains__ := ⟨a_Window___contains__, i_Window___contains__⟩,
    o_Window___eq__ := ⟨a_Window___eq__, i_Window___eq__⟩,
    z_abs := PySem.W.mg_none_of X G z_abs,
    z_bool := PySem.W.mg_none_of X G z_bool,
    z_int := PySem.W.mg_none_of X G z_int,
    z_isinstance := PySem.W.mg_none_of X G z_isinstance,
    z_len := PySem.W.mg_none_of X G z_len,
    z_max := PySem.W.mg_none_of X G z_max,
    z_min := PySem.W.mg_none_of X G z_min,
    z_range := PySem.W.mg_none_of X G z_range }
  exact ⟨PySem.W.fnOf "law" "law" (defArgs s_law) (defBody s_law) (defScope s_law) .none kV_law dc_law pm_law an_law cd_law ct_law, fun s v => .of_eq rfl, fun base _ _ => (ok_law T).imp fun vs H Q E h => h⟩
theorem walk {l : PySem.W.OpenLaw} {q : Program} {loose : List Str} {XP : (Str → Option Value) → Heap → Prop} {YP : World → Heap → Prop} {d : DefRec} {K : Params → PySem.W.Frag} (hn : l.most = some 63) (hdf : d.params.defaults = [])
    (hY : ∀ (w : World) (h : Heap), YP w h → (K w.params).In h)
    (F : ∀ (w : World) (mg : Str → Option Value) (fa : Addr) (h : Heap), (K w.params).In h → h.Ns mainGlobals mg → mg d.name = some (.ref fa) →
      ∃ fd : FuncData, (∀ (s : Shared) (u : Value), BindsTo s fd ⟨[u], []⟩ [("_law_script", u)]) ∧ ∀ base : Heap, (K w.params).In base → base.Ns mainGlobals mg → FnOk l.prog w (K w.params) mg base (L2.CX l.prog w) 7 fa fd ["_law_script"] (spLaw (K w.params))) :
    PySem.W.WalkO q loose XP YP l.row.toRowW d [] (fun f vs => PySem.call f vs) :=
  L2.walk_of (n := 63) (k := 7) (x := "_law_script") (CX := fun w => L2.CX l.prog w) (sp := fun w => spLaw (K w.params)) hn (by decide) hdf ⟨rfl, by decide, by decide⟩ hY F (fun _ _ a ns hl _ hS => ⟨a, ns, rfl, hS, hl, fun _ => rfl⟩) fun _ _ _ _ _ h => by
    obtain ⟨_, _, _, _, _, _, _, _, _, _, _, _, z⟩ := h
    exact z.elim
end LbW
open PySem PySem.W PyProof.Rows
set_option maxRecDepth 100000 in
set_option maxHeartbeats 0 in
theorem PySem.Challenge.cw_lentbytes_k06_windows_that_meet_holds : PySem.Challenge.rw_lentbytes_k06_windows_that_meet.Holds := by
  w_on; o_law; k_head; (case hw => w_witness2)
  k_fill
  refine LbW.walk (l := PySem.Challenge.rw_lentbytes_k06_windows_that_meet) rfl rfl (fun w h Y => PySem.W.kIn_of Y) ?F
  case F =>
    intro w mg fa h KX G hmg
    refine' LbW.all_mk KX G hmg ?a_BadWindow ?a_Window ?pg_Window ?hd_Window ?po_Window ?sa_Window ?mk_Window ?kc_Window ?na_Window_start ?na_Window_step ?na_Window_count ?na_Window_size ?i1_Window ?i2_Window ?i3_Window ?i4_Window ?i5_Window ?a_is_integer ?l_is_integer ?c_is_integer ?k_is_integer ?a_shared_number ?l_shared_number ?c_shared_number ?k_shared_number ?a_Window___init__ ?i_Window___init__ ?l_Window___init__ ?c_Window___init__ ?k_Window___init__ ?a_Window___eq__ ?i_Window___eq__ ?l_Window___eq__ ?c_Window___eq__ ?k_Window___eq__ ?a_Window___contains__ ?i_Window___contains__ ?l_Window___contains__ ?c_Window___contains__ ?k_Window___contains__ ?a_Window_progression ?i_Window_progression ?l_Window_progression ?c_Window_progression ?k_Window_progression ?a_Window_meets ?i_Window_meets ?l_Window_meets ?c_Window_meets ?k_Window_meets ?a__law_state ?l__law_state ?c__law_state ?k__law_state ?a__law_pick ?l__law_pick ?c__law_pick ?k__law_pick ?a__law_number ?l__law_number ?c__law_number ?k__law_number ?a__law_is_integer ?l__law_is_integer ?c__law_is_integer ?k__law_is_integer ?a__law_has ?l__law_has ?c__law_has ?k__law_has ?a__law_parts ?l__law_parts ?c__law_parts ?k__law_parts ?a__law_bytes ?l__law_bytes ?c__law_bytes ?k__law_bytes ?a__law_window ?l__law_window ?c__law_window ?k__law_window ?a__law_apart ?l__law_apart ?c__law_apart ?k__law_apart ?a__law_shared ?l__law_shared ?c__law_shared ?k__law_shared ?a_law ?l_law ?c_law ?k_law ?x1_BadWindow ?x2_BadWindow ?x3_BadWindow ?x4_BadWindow ?x5_BadWindow ?x6_BadWindow ?x7_BadWindow ?x8_BadWindow ?x9_BadWindow ?x10_BadWindow ?x11_BadWindow ?x12_BadWindow ?x13_BadWindow ?x14_BadWindow ?x15_BadWindow ?x16_BadWindow ?x17_BadWindow ?x18_BadWindow ?x19_BadWindow ?x20_BadWindow ?x21_BadWindow ?x22_BadWindow ?x23_BadWindow ?x24_BadWindow ?x25_BadWindow ?x26_BadWindow ?x27_BadWindow ?x28_BadWindow ?x29_BadWindow ?sf_Window ?n_Window ?z_abs ?z_bool ?z_int ?z_isinstance ?z_len ?z_max ?z_min ?z_range
    (case a_BadWindow => first | k_is | rfl | decide +kernel)
    (case a_Window => first | k_is | rfl | decide +kernel)
    (case pg_Window => first | k_is | rfl | decide +kernel)
    (case hd_Window => first | k_is | rfl | decide +kernel)
    (case po_Window => first | k_is | rfl | decide +kernel)
    (case sa_Window => first | k_is | rfl | decide +kernel)
    (case mk_Window => first | k_is | rfl | decide +kernel)
    (case kc_Window => first | k_is | rfl | decide +kernel)
    (case na_Window_start => first | k_is | rfl | decide +kernel)
    (case na_Window_step => first | k_is | rfl | decide +kernel)
    (case na_Window_count => first | k_is | rfl | decide +kernel)
    (case na_Window_size => first | k_is | rfl | decide +kernel)
    (case i1_Window => first | k_is | rfl | decide +kernel)
    (case i2_Window => first | k_is | rfl | decide +kernel)
    (case i3_Window => first | k_is | rfl | decide +kernel)
    (case i4_Window => first | k_is | rfl | decide +kernel)
    (case i5_Window => first | k_is | rfl | decide +kernel)
    (case a_is_integer => first | k_is | rfl | decide +kernel)
    (case l_is_integer => first | k_is | rfl | decide +kernel)
    (case c_is_integer => first | k_is | rfl | decide +kernel)
    (case k_is_integer => first | k_is | rfl | decide +kernel)
    (case a_shared_number => first | k_is | rfl | decide +kernel)
    (case l_shared_number => first | k_is | rfl | decide +kernel)
    (case c_shared_number => first | k_is | rfl | decide +kernel)
    (case k_shared_number => first | k_is | rfl | decide +kernel)
    (case a_Window___init__ => first | k_is | rfl | decide +kernel)
    (case i_Window___init__ => first | k_is | rfl | decide +kernel)
    (case l_Window___init__ => first | k_is | rfl | decide +kernel)
    (case c_Window___init__ => first | k_is | rfl | decide +kernel)
    (case k_Window___init__ => first | k_is | rfl | decide +kernel)
    (case a_Window___eq__ => first | k_is | rfl | decide +kernel)
    (case i_Window___eq__ => first | k_is | rfl | decide +kernel)
    (case l_Window___eq__ => first | k_is | rfl | decide +kernel)
    (case c_Window___eq__ => first | k_is | rfl | decide +kernel)
    (case k_Window___eq__ => first | k_is | rfl | decide +kernel)
    (case a_Window___contains__ => first | k_is | rfl | decide +kernel)
    (case i_Window___contains__ => first | k_is | rfl | decide +kernel)
    (case l_Window___contains__ => first | k_is | rfl | decide +kernel)
    (case c_Window___contains__ => first | k_is | rfl | decide +kernel)
    (case k_Window___contains__ => first | k_is | rfl | decide +kernel)
    (case a_Window_progression => first | k_is | rfl | decide +kernel)
    (case i_Window_progression => first | k_is | rfl | decide +kernel)
    (case l_Window_progression => first | k_is | rfl | decide +kernel)
    (case c_Window_progression => first | k_is | rfl | decide +kernel)
    (case k_Window_progression => first | k_is | rfl | decide +kernel)
    (case a_Window_meets => first | k_is | rfl | decide +kernel)
    (case i_Window_meets => first | k_is | rfl | decide +kernel)
    (case l_Window_meets => first | k_is | rfl | decide +kernel)
    (case c_Window_meets => first | k_is | rfl | decide +kernel)
    (case k_Window_meets => first | k_is | rfl | decide +kernel)
    (case a__law_state => first | k_is | rfl | decide +kernel)
    (case l__law_state => first | k_is | rfl | decide +kernel)
    (case c__law_state => first | k_is | rfl | decide +kernel)
    (case k__law_state => first | k_is | rfl | decide +kernel)
    (case a__law_pick => first | k_is | rfl | decide +kernel)
    (case l__law_pick => first | k_is | rfl | decide +kernel)
    (case c__law_pick => first | k_is | rfl | decide +kernel)
    (case k__law_pick => first | k_is | rfl | decide +kernel)
    (case a__law_number => first | k_is | rfl | decide +kernel)
    (case l__law_number => first | k_is | rfl | decide +kernel)
    (case c__law_number => first | k_is | rfl | decide +kernel)
    (case k__law_number => first | k_is | rfl | decide +kernel)
    (case a__law_is_integer => first | k_is | rfl | decide +kernel)
    (case l__law_is_integer => first | k_is | rfl | decide +kernel)
    (case c__law_is_integer => first | k_is | rfl | decide +kernel)
    (case k__law_is_integer => first | k_is | rfl | decide +kernel)
    (case a__law_has => first | k_is | rfl | decide +kernel)
    (case l__law_has => first | k_is | rfl | decide +kernel)
    (case c__law_has => first | k_is | rfl | decide +kernel)
    (case k__law_has => first | k_is | rfl | decide +kernel)
    (case a__law_parts => first | k_is | rfl | decide +kernel)
    (case l__law_parts => first | k_is | rfl | decide +kernel)
    (case c__law_parts => first | k_is | rfl | decide +kernel)
    (case k__law_parts => first | k_is | rfl | decide +kernel)
    (case a__law_bytes => first | k_is | rfl | decide +kernel)
    (case l__law_bytes => first | k_is | rfl | decide +kernel)
    (case c__law_bytes => first | k_is | rfl | decide +kernel)
    (case k__law_bytes => first | k_is | rfl | decide +kernel)
    (case a__law_window => first | k_is | rfl | decide +kernel)
    (case l__law_window => first | k_is | rfl | decide +kernel)
    (case c__law_window => first | k_is | rfl | decide +kernel)
    (case k__law_window => first | k_is | rfl | decide +kernel)
    (case a__law_apart => first | k_is | rfl | decide +kernel)
    (case l__law_apart => first | k_is | rfl | decide +kernel)
    (case c__law_apart => first | k_is | rfl | decide +kernel)
    (case k__law_apart => first | k_is | rfl | decide +kernel)
    (case a__law_shared => first | k_is | rfl | decide +kernel)
    (case l__law_shared => first | k_is | rfl | decide +kernel)
    (case c__law_shared => first | k_is | rfl | decide +kernel)
    (case k__law_shared => first | k_is | rfl | decide +kernel)
    (case a_law => first | k_is | rfl | decide +kernel)
    (case l_law => first | k_is | rfl | decide +kernel)
    (case c_law => first | k_is | rfl | decide +kernel)
    (case k_law => first | k_is | rfl | decide +kernel)
    (case x1_BadWindow => first | k_is | rfl | decide +kernel)
    (case x2_BadWindow => first | k_is | rfl | decide +kernel)
    (case x3_BadWindow => first | k_is | rfl | decide +kernel)
    (case x4_BadWindow => first | k_is | rfl | decide +kernel)
    (case x5_BadWindow => first | k_is | rfl | decide +kernel)
    (case x6_BadWindow => first | k_is | rfl | decide +kernel)
    (case x7_BadWindow => first | k_is | rfl | decide +kernel)
    (case x8_BadWindow => first | k_is | rfl | decide +kernel)
    (case x9_BadWindow => first | k_is | rfl | decide +kernel)
    (case x10_BadWindow => first | k_is | rfl | decide +kernel)
    (case x11_BadWindow => first | k_is | rfl | decide +kernel)
    (case x12_BadWindow => first | k_is | rfl | decide +kernel)
    (case x13_BadWindow => first | k_is | rfl | decide +kernel)
    (case x14_BadWindow => first | k_is | rfl | decide +kernel)
    (case x15_BadWindow => first | k_is | rfl | decide +kernel)
    (case x16_BadWindow => first | k_is | rfl | decide +kernel)
    (case x17_BadWindow => first | k_is | rfl | decide +kernel)
    (case x18_BadWindow => first | k_is | rfl | decide +kernel)
    (case x19_BadWindow => first | k_is | rfl | decide +kernel)
    (case x20_BadWindow => first | k_is | rfl | decide +kernel)
    (case x21_BadWindow => first | k_is | rfl | decide +kernel)
    (case x22_BadWindow => first | k_is | rfl | decide +kernel)
    (case x23_BadWindow => first | k_is | rfl | decide +kernel)
    (case x24_BadWindow => first | k_is | rfl | decide +kernel)
    (case x25_BadWindow => first | k_is | rfl | decide +kernel)
    (case x26_BadWindow => first | k_is | rfl | decide +kernel)
    (case x27_BadWindow => first | k_is | rfl | decide +kernel)
    (case x28_BadWindow => first | k_is | rfl | decide +kernel)
    (case x29_BadWindow => first | k_is | rfl | decide +kernel)
    (case sf_Window => first | k_is | rfl | decide +kernel)
    (case n_Window => first | k_is | rfl | decide +kernel)
    (case z_abs => first | k_is | rfl | decide +kernel)
    (case z_bool => first | k_is | rfl | decide +kernel)
    (case z_int => first | k_is | rfl | decide +kernel)
    (case z_isinstance => first | k_is | rfl | decide +kernel)
    (case z_len => first | k_is | rfl | decide +kernel)
    (case z_max => first | k_is | rfl | decide +kernel)
    (case z_min => first | k_is | rfl | decide +kernel)
    (case z_range => first | k_is | rfl | decide +kernel)
#print axioms PySem.Challenge.cw_lentbytes_k06_windows_that_meet_holds
