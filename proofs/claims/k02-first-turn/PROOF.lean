import PyProof.Rows.All
import Wide.All
import OpenK.AllK
import Wide.FinOn
import PyProof.InstNe
import HandS.ForMost
import HandS.ForExc
import HandS.Wide
import HandS.Defaults
import HandS.Star
import HandS.More
import HandS.IsInst
import HandS.SlotsOwn
import PySem.Challenge.RW_lentbytes_k02_first_turn
set_option Elab.async false
set_option linter.all false
set_option maxRecDepth 100000
set_option maxHeartbeats 4000000
/-! Lb0: calls by FnR with a wish that may hang on the slots; operators of own classes. -/
namespace Lb
open PySem PySem.Spec PyProof.Rows L2

section
variable {P : Program} {w : World} {K : PySem.W.Frag} {mg : Str → Option Value} {base : Heap} {CX : CXT} {k : Nat} {f : Addr} {sp : Sp}
theorem FnOk.r0 {fd : FuncData} {ps : List Str} (F : FnOk P w K mg base CX k f fd ps sp) (hb : Binds K fd ps []) : FnR P w K mg base CX k f sp :=
  (F.raw hb .nil).imp fun vs H Q E h => by rw [List.append_nil]; exact h
end

section
variable {X : Cx} {CX : CXT} {k : Nat} {f C : Addr} {sp : Sp} {E : L2.St → XK} {x m : Str} {p pos apos : Pos} {e o : Expr} {es : List Expr} {ta : TE} {t : TA}

/-- the callee runs, the wish at these slots -/
theorem run_fnX {pins : List (Addr × Obj)} {σ : L2.St} {H : Hp} {s : Shared} {Q : VK} {us : List Value} {vs : List V} (F : FnR X.prog X.w X.K X.mg X.base CX k f sp) (hr : Room k X.A) (hx : PassesAt CX X σ (E σ))
    (I : Inv X pins σ H s) (r : Vals vs us) (h : sp vs H Q (E σ)) : wpAny (model X.prog X.w) X.A (call (.ref f) us) (EP X pins σ Q) X.xe s := by
  refine wpAny_call (codeAny_mono (F X.A X.stack s H us vs Q (E σ) hr I.env0 r h) fun r s' hq => ?_)
  cases r with
  | error e => exact hx pins H s e s' I hq
  | ok fl =>
    cases fl with
    | ret u => exact I.after hq
    | next => exact False.elim hq
    | brk => exact False.elim hq
    | cont => exact False.elim hq

/-- f(..) -/
def tCallX (sp : Sp) (E : L2.St → XK) (t : TA) : TE := fun σ H Q => t σ H fun vs H1 => sp vs H1 Q (E σ)
theorem pe_callX (F : FnR X.prog X.w X.K X.mg X.base CX k f sp) (hr : Room k X.A) (hg : Gl X x) (hm : X.mg x = some (.ref f)) (hk : PySem.W.keepIn X.K (.ref f) = true) (hx : ∀ σ, PassesAt CX X σ (E σ))
    (ha : PA X (e :: es) t) (hdb : (x == ("__debug__" : Str)) = false := by decide) (he : starEach (e :: es) X.env = (false, eval e X.env) :: starEach es X.env := by rfl) (hpl : (backTo pos (starEach es X.env)).any (·.1) = false := by rfl) :
    PE X (.Call (.Name x p) (e :: es) [] pos) (tCallX sp E t) := by
  refine ⟨fun pins s σ H Q I h => ?_⟩
  refine wpAny_Call_Name_kw (ld_glob I hg hm ?_ hdb)
  refine PySem.W.callWith_K (h₀ := X.base) I.ok.mod.kin hk (thn (ha.run pos pins s σ H _ I h) fun us s1 ⟨vs, H1, I1, r, q⟩ => ⟨I1.kIn, ?_⟩) he hpl
  exact run_fnX F hr (hx σ) I1 r q
theorem pe_callX0 (F : FnR X.prog X.w X.K X.mg X.base CX k f sp) (hr : Room k X.A) (hg : Gl X x) (hm : X.mg x = some (.ref f)) (hk : PySem.W.keepIn X.K (.ref f) = true) (hx : ∀ σ, PassesAt CX X σ (E σ))
    (hdb : (x == ("__debug__" : Str)) = false := by decide) : PE X (.Call (.Name x p) [] [] pos) (tCallX sp E tNil) := by
  refine ⟨fun pins s σ H Q I h => ?_⟩
  refine wpAny_Call_Name_kw (ld_glob I hg hm ?_ hdb)
  exact PySem.W.callWith_K0 I.kIn hk (run_fnX (us := []) F hr (hx σ) I .nil h)

/-- o.m(..) of an instance of the class at C -/
def tMethX (C : Addr) (m : Str) (sp : Sp) (E : L2.St → XK) (ta : TE) (t : TA) : TE := fun σ H Q => ta σ H fun x H1 => ∃ a dx fs, x = .ref a ∧ H1 a = some (.ins C dx fs) ∧ fs.lookup m = none ∧
  t σ H1 fun vs H2 => sp (x :: vs) H2 Q (E σ)
theorem pe_methX {pl : Sem Bool} (he : PE X o ta) (c : Cls X.K C) (hm : Meth X.K C m f) (F : FnR X.prog X.w X.K X.mg X.base CX k f sp) (hr : Room k X.A) (hx : ∀ σ, PassesAt CX X σ (E σ)) (ha : PA X (e :: es) t)
    (hst : starEach (e :: es) X.env = (false, eval e X.env) :: starEach es X.env := by rfl) (hpl : (backTo pos (starEach es X.env)).any (·.1) = false := by rfl)
    (ht : eval (.Call (.Attribute o m apos) (e :: es) [] pos) X.env = (do
      let ov ← eval o X.env
      standAt apos.atName
      let (f, first) ← holding [ov] (getMethod ov m pl)
      callWith pos f first (backTo pos (starEach (e :: es) X.env)) (backToKw pos (keywordEach [] X.env))) := by rfl) :
    PE X (.Call (.Attribute o m apos) (e :: es) [] pos) (tMethX C m sp E ta t) := by
  refine ⟨fun pins s σ H Q I h => ?_⟩
  refine PySem.W.methodCall_KW (pl := pl) (thn (he.run pins s σ H _ I h) fun u s1 ⟨x, H1, I1, rx, a, dx, fs, ex, ea, l, q⟩ => ?_) ht
  subst ex
  obtain rfl : u = Value.ref a := rx
  refine getmeth_ok I1 ea c hm l ?_
  refine PySem.W.callWith_K (first := [.ref a]) (h₀ := X.base) I.ok.mod.kin hm.kp (thn (ha.run pos pins s1 σ H1 _ I1 q) fun us s2 ⟨vs, H2, I2, r, q2⟩ => ⟨I2.kIn, ?_⟩) hst hpl
  exact run_fnX (us := .ref a :: us) (vs := .ref a :: vs) F hr (hx σ) I2 (.cons rfl r) q2
theorem pe_methX0 {pl : Sem Bool} (he : PE X o ta) (c : Cls X.K C) (hm : Meth X.K C m f) (F : FnR X.prog X.w X.K X.mg X.base CX k f sp) (hr : Room k X.A) (hx : ∀ σ, PassesAt CX X σ (E σ))
    (ht : eval (.Call (.Attribute o m apos) [] [] pos) X.env = (do
      let ov ← eval o X.env
      standAt apos.atName
      let (f, first) ← holding [ov] (getMethod ov m pl)
      callWith pos f first (backTo pos (starEach [] X.env)) (backToKw pos (keywordEach [] X.env))) := by rfl) :
    PE X (.Call (.Attribute o m apos) [] [] pos) (tMethX C m sp E ta tNil) := by
  refine ⟨fun pins s σ H Q I h => ?_⟩
  refine PySem.W.methodCall_KW (pl := pl) (thn (he.run pins s σ H _ I h) fun u s1 ⟨x, H1, I1, rx, a, dx, fs, ex, ea, l, q⟩ => ?_) ht
  subst ex
  obtain rfl : u = Value.ref a := rx
  refine getmeth_ok I1 ea c hm l ?_
  exact PySem.W.callWith_K0 (first := [.ref a]) I1.kIn hm.kp (run_fnX (us := [.ref a]) (vs := [.ref a]) F hr (hx σ) I1 (.cons rfl .nil) q)

/-- C(..) -/
def tMakeX (C : Addr) (sp : Sp) (E : L2.St → XK) (t : TA) : TE := fun σ H Q => t σ H fun vs H1 => ∀ x dx, H1 x = none → H1 dx = none → dx ≠ x →
  sp (.ref x :: vs) (upd (upd H1 dx (.own x)) x (.ins C dx [])) (fun v H2 => v = .non ∧ Q (.ref x) H2) (E σ)
theorem run_makeX {pins : List (Addr × Obj)} {σ : L2.St} {H : Hp} {s : Shared} {Q : VK} {us : List Value} {vs : List V} (M : Mk X.K C f) (F : FnR X.prog X.w X.K X.mg X.base CX k f sp) (hr : Room (k + 1) X.A)
    (hx : PassesAt CX X σ (E σ)) (I : Inv X pins σ H s) (r : Vals vs us)
    (h : ∀ x dx, H x = none → H dx = none → dx ≠ x → sp (.ref x :: vs) (upd (upd H dx (.own x)) x (.ins C dx [])) (fun v H2 => v = .non ∧ Q (.ref x) H2) (E σ)) :
    wpAny (model X.prog X.w) X.A (call (.ref C) us) (EP X pins σ Q) X.xe s := by
  have hq := h (s.heap.objs.size + 1) s.heap.objs.size (I.hok.fresh (Nat.le_succ _)) (I.hok.fresh (Nat.le_refl _)) (Nat.ne_of_lt (Nat.lt_succ_self _))
  have I2 := Inv.made (C := C) I
  have r2 : Vals (V.ref (s.heap.objs.size + 1) :: vs) (Value.ref (s.heap.objs.size + 1) :: us) := .cons rfl r
  refine wpAny_call (make_map (f := f) I.kIn M.makes M.init (beq_iff_eq.mp M.fn) (codeAny_mono (F _ X.stack _ _ (Value.ref (s.heap.objs.size + 1) :: us) _ _ (E σ) (hr.make C us [])
    (I2.env0.make C us []) r2 hq) fun r s' hq' => ?_))
  cases r with
  | error e => exact hx pins _ _ e s' I2 hq'
  | ok fl =>
    cases fl with
    | ret u =>
      obtain ⟨v, H', I3, rv, ev, q3⟩ := I2.after hq'
      subst ev
      exact ⟨rv, ⟨V.ref (s.heap.objs.size + 1), H', I3, rfl, q3⟩⟩
    | next => exact False.elim hq'
    | brk => exact False.elim hq'
    | cont => exact False.elim hq'
theorem pe_makeX (M : Mk X.K C f) (F : FnR X.prog X.w X.K X.mg X.base CX k f sp) (hr : Room (k + 1) X.A) (hg : Gl X x) (hm : X.mg x = some (.ref C)) (hx : ∀ σ, PassesAt CX X σ (E σ))
    (ha : PA X (e :: es) t) (hdb : (x == ("__debug__" : Str)) = false := by decide) (he : starEach (e :: es) X.env = (false, eval e X.env) :: starEach es X.env := by rfl) (hpl : (backTo pos (starEach es X.env)).any (·.1) = false := by rfl) :
    PE X (.Call (.Name x p) (e :: es) [] pos) (tMakeX C sp E t) := by
  refine ⟨fun pins s σ H Q I h => ?_⟩
  refine wpAny_Call_Name_kw (ld_glob I hg hm ?_ hdb)
  refine PySem.W.callWith_K (h₀ := X.base) I.ok.mod.kin M.kp (thn (ha.run pos pins s σ H _ I h) fun us s1 ⟨vs, H1, I1, r, q⟩ => ⟨I1.kIn, ?_⟩) he hpl
  exact run_makeX M F hr (hx σ) I1 r q
theorem pe_makeX0 (M : Mk X.K C f) (F : FnR X.prog X.w X.K X.mg X.base CX k f sp) (hr : Room (k + 1) X.A) (hg : Gl X x) (hm : X.mg x = some (.ref C)) (hx : ∀ σ, PassesAt CX X σ (E σ))
    (hdb : (x == ("__debug__" : Str)) = false := by decide) : PE X (.Call (.Name x p) [] [] pos) (tMakeX C sp E tNil) := by
  refine ⟨fun pins s σ H Q I h => ?_⟩
  refine wpAny_Call_Name_kw (ld_glob I hg hm ?_ hdb)
  exact PySem.W.callWith_K0 I.kIn M.kp (run_makeX (us := []) M F hr (hx σ) I .nil h)

/-! ### operators of own classes -/
theorem inst_at {pins : List (Addr × Obj)} {σ : L2.St} {H : Hp} {s : Shared} {a C dx : Addr} {fs : List (Str × V)} (I : Inv X pins σ H s) (h : H a = some (.ins C dx fs)) : ∃ ox od, PySem.W.InstAt s.heap a ox C od := by
  obtain ⟨mA, O, _⟩ := ins_get I.hok h
  obtain ⟨od, J, _⟩ := O.look
  exact ⟨_, _, J⟩
/-- the class says the name itself, by a def -/
structure OwnDef (K : PySem.W.Frag) (C : Addr) (nm : Str) (f : Addr) : Prop where
  at_ : PySem.W.findIn K (.ref C) nm = some (some (.ref f))
  fn : PySem.W.isFn K (.ref f) = true
theorem cmp_back {pins : List (Addr × Obj)} {σ : L2.St} {Q : VK} {v : Value} {s' : Shared} (h : EP X pins σ Q v s') : PySem.W.CmpBack (EP X pins σ Q) v s' := by
  obtain ⟨z, H', I', r, q⟩ := h
  exact SlX.cmpback r ⟨z, H', I', r, q⟩
/-- x op y, both of the class at C -/
def rOwn2 (C : Addr) (sp : Sp) (E : XK) : R2 := fun x y H Q => ∃ a b dx dy fs gs, x = .ref a ∧ y = .ref b ∧ H a = some (.ins C dx fs) ∧ H b = some (.ins C dy gs) ∧ sp [.ref a, .ref b] H Q E
theorem op_own2 {op : Operator} {E : XK} (hc : PySem.W.selfFirst X.K C = true) (o : OwnDef X.K C (PySem.dunder op.info.2) f) (F : FnR X.prog X.w X.K X.mg X.base CX k f sp) (hr : Room k X.A) (hx : Passes CX X E) :
    OpR X (binaryOp op) (rOwn2 C sp E) := by
  intro pins s σ H x y v u Q I rx ry h
  obtain ⟨a, b, dx, dy, fs, gs, rfl, rfl, ha, hb, q⟩ := h
  obtain rfl : v = Value.ref a := rx
  obtain rfl : u = Value.ref b := ry
  obtain ⟨ox, od, J⟩ := inst_at I ha
  obtain ⟨oy, oe, J'⟩ := inst_at I hb
  obtain ⟨m, fr⟩ := I.fr
  refine PySem.W.binop_K fr I.ok.mod.kin J J'.type hc o.at_ o.fn ?_
  exact wpAny_mono (run_fnX (E := fun _ => E) (vs := [.ref a, .ref b]) (us := [.ref a, .ref b]) F hr (fun pins H s e s' => hx pins σ H s e s') I (.cons rfl (.cons rfl .nil)) q) (fun _ _ z => cmp_back z) fun _ _ z => z
/-- x op n, n an int -/
def rOwnI (C : Addr) (sp : Sp) (E : XK) : R2 := fun x y H Q => ∃ a dx fs i, x = .ref a ∧ y = .int i ∧ H a = some (.ins C dx fs) ∧ sp [.ref a, .int i] H Q E
theorem op_ownI {op : Operator} {E : XK} (hc : PySem.W.selfFirst X.K C = true) (o : OwnDef X.K C (PySem.dunder op.info.2) f) (hr' : PySem.W.findIn X.K (.ref C) (PySem.dunderR op.info.2) = some none)
    (h1 : ∃ fo, PySem.W.findIn X.K (.type "int") (PySem.dunder op.info.2) = some fo) (h2 : ∃ fo, PySem.W.findIn X.K (.type "int") (PySem.dunderR op.info.2) = some fo) (hsub : PySem.W.subIn X.K (.type "int") (.ref C) = some false)
    (F : FnR X.prog X.w X.K X.mg X.base CX k f sp) (hr : Room k X.A) (hx : Passes CX X E) :
    OpR X (binaryOp op) (rOwnI C sp E) := by
  intro pins s σ H x y v u Q I rx ry h
  obtain ⟨a, dx, fs, i, rfl, rfl, ha, q⟩ := h
  obtain ⟨fo, h1⟩ := h1
  obtain ⟨ro, h2⟩ := h2
  obtain rfl : v = Value.ref a := rx
  obtain ⟨tk, rfl⟩ : ∃ tk, u = Value.int i tk := ry
  obtain ⟨ox, od, J⟩ := inst_at I ha
  obtain ⟨m, fr⟩ := I.fr
  refine PySem.W.ksp_binT (T := "int") (rc := none) fr I.ok.mod.kin J rfl hc o.at_ o.fn hr' (.inl rfl) h1 h2 hsub ?_
  exact wpAny_mono (run_fnX (E := fun _ => E) (vs := [.ref a, .int i]) (us := [.ref a, .int i tk]) F hr (fun pins H s e s' => hx pins σ H s e s') I (.cons rfl (.cons ⟨tk, rfl⟩ .nil)) q) (fun _ _ z => cmp_back z) fun _ _ z => z
/-- -x -/
def rOwnU (C : Addr) (sp : Sp) (E : XK) : V → Hp → VK → Prop := fun x H Q => ∃ a dx fs, x = .ref a ∧ H a = some (.ins C dx fs) ∧ sp [.ref a] H Q E
theorem un_own {E : XK} (o : OwnDef X.K C "__neg__" f) (F : FnR X.prog X.w X.K X.mg X.base CX k f sp) (hr : Room k X.A) (hx : Passes CX X E) :
    UnR X (unaryOp .USub) (rOwnU C sp E) := by
  intro pins s σ H x v Q I rx h
  obtain ⟨a, dx, fs, rfl, ha, q⟩ := h
  obtain rfl : v = Value.ref a := rx
  obtain ⟨ox, od, J⟩ := inst_at I ha
  obtain ⟨m, fr⟩ := I.fr
  refine PySem.W.ksp_neg fr I.ok.mod.kin J o.at_ o.fn ?_
  exact run_fnX (E := fun _ => E) (vs := [.ref a]) (us := [.ref a]) F hr (fun pins H s e s' => hx pins σ H s e s') I (.cons rfl .nil) q
/-- x == y -/
theorem op_eqOwn {E : XK} (o : OwnDef X.K C "__eq__" f) (F : FnR X.prog X.w X.K X.mg X.base CX k f sp) (hr : Room k X.A) (hx : Passes CX X E) :
    OpR X (compareOp .Eq) (rOwn2 C sp E) := by
  intro pins s σ H x y v u Q I rx ry h
  obtain ⟨a, b, dx, dy, fs, gs, rfl, rfl, ha, hb, q⟩ := h
  obtain rfl : v = Value.ref a := rx
  obtain rfl : u = Value.ref b := ry
  obtain ⟨ox, od, J⟩ := inst_at I ha
  obtain ⟨oy, oe, J'⟩ := inst_at I hb
  obtain ⟨m, fr⟩ := I.fr
  show wpAny _ _ (richCompare .Eq _ _) _ _ _
  refine PySem.W.cmp_K hr.units0 fr I.ok.mod.kin J J'.type (by unfold PySem.W.notFirst; simp) o.at_ o.fn ?_
  exact wpAny_mono (run_fnX (E := fun _ => E) (vs := [.ref a, .ref b]) (us := [.ref a, .ref b]) F hr (fun pins H s e s' => hx pins σ H s e s') I (.cons rfl (.cons rfl .nil)) q) (fun _ _ z => cmp_back z) fun _ _ z => z
end
end Lb

namespace Lb
open PySem PySem.Spec PyProof.Rows L2
section
open PySem.W
variable {prog : Program} {w : World} {A : Around} {E : Value → Shared → Prop} {s : Shared} {K : Frag} {x C f : Addr} {ox : Obj} {od : Option Obj} {name : Str} {b : Value}
theorem ifBound_B {M : Model} {id : String} {args : List Value} {Q : Option Value → Shared → Prop} (S : Slot "object" name id) (X : K.In s.heap) (I : InstAt s.heap x ox C od) (hs : findIn K (.ref C) name = some (some (.builtin id)))
    (h : wpAny M A (call (.builtin id) (.ref x :: args)) (fun v => Q (some v)) E s) : wpAny M A (callSpecialIfBound? (.ref x) name args) Q E s := by
  simp only [callSpecialIfBound?, bindSpecialIfBound?]
  refine wpAny_holding (wpAny_bind (wpAny_bind (wpAny_bind (I.type.here ((looks_findIn X hs).here ?_)))))
  simp only [S.bind]
  refine wpAny_bind (wpAny_askSetting (wpAny_ite ?_))
  have fin : wpAny M A (call (.builtin id) ([.ref x] ++ args) >>= fun v => pure (some v)) Q E s := wpAny_bind (wpAny_mono h (fun v s' h' => wpAny_pure h') fun _ _ h' => h')
  split
  · exact wpAny_bind (wpAny_pure (wpAny_pure fin))
  · exact wpAny_tryCatch (wpAny_bind (wpAny_pure (wpAny_pure fin)))

theorem objNe_body {y : Addr} (hu : A.units < cLine) {Q : Fin → Shared → Prop} (X : K.In s.heap) (I : InstAt s.heap x ox C od) (hs : findIn K (.ref C) "__eq__" = some (some (.ref f))) (hf : isFn K (.ref f) = true)
    (hcall : wpAny (model prog w) A (call (.ref f) [.ref x, .ref y]) (fun v s' => ∃ b, v = .bool b ∧ Q (.done (.ret (.bool (!b)))) s') E s) :
    wpAny (model prog w) A (Builtin.«object.__ne__» ⟨[.ref x, .ref y], []⟩) Q E s := by
  obtain ⟨hp, g, d, tk, os⟩ := s
  unfold Builtin.«object.__ne__»
  repeat (first
    | with_reducible refine wpAny_cRoomFor hu ?_
    | (refine wpAny_bind (m := callSpecialIfBound? (.ref x) (Str.ofString "__eq__") [.ref y])
        (ifBound_K X I hs hf (wpAny_mono hcall (fun r s' hr => by
          obtain ⟨b, rfl, hq⟩ := hr
          repeat (first | exact hq | exact wpAny_pure hq | exact wpAny_truthy_bool hq | (refine wpAny_bind (m := truthy (.bool _)) (wpAny_truthy_bool ?_)) | wp_step)) fun _ _ e => e)))
    | wp_step)

theorem ne_K {y : Addr} {Q : Value → Shared → Prop} (hu : A.units + 1 < cLine) (X : K.In s.heap) (I : InstAt s.heap x ox C od) (hb : Looks (model prog w) s.heap (typeOf (.ref y)) (.ref C))
    (hn : findIn K (.ref C) "__ne__" = some (some (.builtin "object.__ne__"))) (hm : mroIn K C (.type "object") = some true) (hs : findIn K (.ref C) "__eq__" = some (some (.ref f))) (hf : isFn K (.ref f) = true)
    (hcall : wpAny (model prog w) A.in1 (call (.ref f) [.ref x, .ref y]) (fun v s' => ∃ b, v = .bool b ∧ Q (.bool (!b)) s') E s) :
    wpAny (model prog w) A (richCompare .NotEq (.ref x) (.ref y)) Q E s := by
  have sub : Looks (model prog w) s.heap (isInstance (.ref x) (.type "object")) true := I.type.andThen (looks_mroIn X hm)
  have one : wpAny (model prog w) A (tryCompare (.ref x) "__ne__" (.ref y)) (fun r s' => ∃ v, r = some v ∧ Q v s') E s := by
    unfold tryCompare
    refine wpAny_bind (ifBound_B F.cmp_object.ne X I hn (wpAny_call (codeAny_call_builtin F.cmp_object.ne.plain F.cmpEntry_ne
      (@W.check_slot (model prog w) _ _ s "object.__ne__" "object" "__ne__" (.ref x) [.ref y] [] _ F.cmpKind_ne F.cmpSplit_ne sub (F.cmpArgs_ne _ _)
        (objNe_body (A := A.in1) (Nat.lt_of_lt_of_le (by exact hu) (by exact Nat.le_refl _)) X I hs hf (wpAny_mono hcall (fun v s' hv => ?_) fun _ _ e => e))))))
    obtain ⟨b, rfl, hq⟩ := hv
    exact ⟨b, rfl, wpAny_pure ⟨_, rfl, hq⟩⟩
  unfold richCompare
  simp only [oneThing_ref]
  refine wpAny_holding (wpAny_bind (wpAny_cRoomFor (Nat.lt_of_succ_lt hu) ?_))
  rw [cmpInfo_NotEq]
  dsimp only
  refine wpAny_bind (I.type.here (wpAny_bind (hb.here ?_)))
  rw [show (Value.ref C != Value.ref C) = false from by simp]
  simp only [Bool.false_eq_true, if_false]
  refine wpAny_bind (wpAny_pure ?_)
  simp only [Bool.false_eq_true, if_false]
  refine wpAny_bind (wpAny_mono one (fun r s' z => ?_) fun _ _ e => e)
  obtain ⟨v, rfl, hq⟩ := z
  exact wpAny_pure hq
end
section
variable {X : Cx} {CX : CXT} {k : Nat} {f C : Addr} {sp : Sp}
/-- x != y by the own __eq__ -/
def rOwnNe (C : Addr) (sp : Sp) (E : XK) : R2 := fun x y H Q => ∃ a b dx dy fs gs, x = .ref a ∧ y = .ref b ∧ H a = some (.ins C dx fs) ∧ H b = some (.ins C dy gs) ∧ sp [.ref a, .ref b] H (fun v H' => ∃ c, v = .bl c ∧ Q (.bl (!c)) H') E
theorem op_neOwn {E : XK} (hn : PySem.W.findIn X.K (.ref C) "__ne__" = some (some (.builtin "object.__ne__"))) (hm : PySem.W.mroIn X.K C (.type "object") = some true) (o : OwnDef X.K C "__eq__" f)
    (F : FnR X.prog X.w X.K X.mg X.base CX k f sp) (hr : Room (k + 1) X.A) (hx : Passes CX X E) :
    OpR X (compareOp .NotEq) (rOwnNe C sp E) := by
  intro pins s σ H x y v u Q I rx ry h
  obtain ⟨a, b, dx, dy, fs, gs, rfl, rfl, ha, hb, q⟩ := h
  obtain rfl : v = Value.ref a := rx
  obtain rfl : u = Value.ref b := ry
  obtain ⟨ox, od, J⟩ := inst_at I ha
  obtain ⟨oy, oe, J'⟩ := inst_at I hb
  show wpAny _ _ (richCompare .NotEq _ _) _ _ _
  refine ne_K (hu_of hr) I.kIn J J'.type hn hm o.at_ o.fn ?_
  refine wpAny_call (codeAny_mono (F X.A.in1 X.stack s H [.ref a, .ref b] [.ref a, .ref b] _ E hr.in1 I.env0.in1 (.cons rfl (.cons rfl .nil)) q) fun r s' hq => ?_)
  cases r with
  | error e => exact hx pins σ H s e s' I hq
  | ok fl =>
    cases fl with
    | ret u =>
      obtain ⟨z, H', I', rz, c, rfl, q'⟩ := I.after hq
      obtain rfl : u = Value.bool c := rz
      exact ⟨c, rfl, ⟨.bl (!c), H', I', rfl, q'⟩⟩
    | next => exact False.elim hq
    | brk => exact False.elim hq
    | cont => exact False.elim hq
end
end Lb

namespace Lb
open PySem PySem.Spec PyProof.Rows L2
/-! ### readings, one step a lemma: the goal is the reading at the slots, the heap and what follows -/
section
variable {X : Cx} {σ : L2.St} {H : Hp} {Q : VK} {QB : Bool → Hp → Prop} {K : PySem.W.Frag} {ta tb tc : TE} {t u : TT} {i : Nat} {v x y : V} {r r' : R2}
/-! the rules for operators whatever the operands -/
def rAdd : R2 := rI0 fun i j => .int (i + j)
def rAddS : R2 := fun x y H Q => ∃ i j, x = .str i ∧ y = .str j ∧ i.length + j.length ≤ sizeLine ∧ Q (.str (i ++ j)) H
def rAddA (K : PySem.W.Frag) : R2 := fun x y H Q => rAdd x y H Q ∨ rAddS x y H Q ∨ rCat x y H Q ∨ rCatT K x y H Q
theorem op_addA : OpR X (binaryOp .Add) (rAddA X.K) := op_add.or (op_add_str.or (op_cat.or op_catT))
def rSub : R2 := rI0 fun i j => .int (i - j)
theorem op_subI : OpR X (binaryOp .Sub) rSub := op_sub
def rMul : R2 := rI CMulW fun i j => .int (i * j)
def rMulA : R2 := fun x y H Q => rMul x y H Q ∨ rRep x y H Q
theorem op_mulA : OpR X (binaryOp .Mult) rMulA := op_mulW.or op_rep
def rDiv : R2 := rI CDivW fun i j => .int (i / j)
theorem op_div : OpR X (binaryOp .FloorDiv) rDiv := op_fdivW
def rMod : R2 := rI (fun _ j => 0 < j) fun i j => .int (i % j)
theorem op_modI : OpR X (binaryOp .Mod) rMod := op_mod
def rPow : R2 := rI CPow fun i j => .int (i ^ j.toNat)
theorem op_powI : OpR X (binaryOp .Pow) rPow := op_pow
def rEqA (K : PySem.W.Frag) : R2 := fun x y H Q => rEq x y H Q ∨ rEqD K x y H Q
theorem op_eqA (hu : X.A.units + 64 < cLine) : OpR X (compareOp .Eq) (rEqA X.K) := op_eq.or (op_eqD hu)
def rNeA (K : PySem.W.Frag) : R2 := fun x y H Q => rNe x y H Q ∨ rNeD K x y H Q
theorem op_neA (hu : X.A.units + 64 < cLine) : OpR X (compareOp .NotEq) (rNeA X.K) := op_ne.or (op_neD hu)
def rLt : R2 := rI0 fun i j => .bl (decide (i < j))
def rLe : R2 := rI0 fun i j => .bl (decide (i ≤ j))
def rGt : R2 := rI0 fun i j => .bl (decide (j < i))
def rGe : R2 := rI0 fun i j => .bl (decide (j ≤ i))
theorem op_ltI : OpR X (compareOp .Lt) rLt := op_lt
theorem op_leI : OpR X (compareOp .LtE) rLe := op_le
theorem op_gtI : OpR X (compareOp .Gt) rGt := op_gt
theorem op_geI : OpR X (compareOp .GtE) rGe := op_ge
def rIs0 : R2 := fun x y H Q => y = .non ∧ Q (.bl (decide (x = .non))) H
def rIsnt0 : R2 := fun x y H Q => y = .non ∧ Q (.bl (!decide (x = .non))) H
theorem op_is0 : OpR X (compareOp .Is) rIs0 := op_isN
theorem op_isnt0 : OpR X (compareOp .IsNot) rIsnt0 := op_notN
def uNeg : V → Hp → VK → Prop := rU fun i => .int (-i)
theorem un_negI : UnR X (unaryOp .USub) uNeg := un_neg
/-! built-in calls -/
def kLen (K : PySem.W.Frag) : List V → Hp → VK → Prop := fun xs H Q => ∃ x n, xs = [x] ∧ LenV K x H n ∧ Q (.int n) H
theorem call_lenA : CallR X (.builtin "len") (kLen X.K) := call_len
def kInt : List V → Hp → VK → Prop := fun xs H Q => (∃ i, xs = [.int i] ∧ Q (.int i) H) ∨ ∃ k, xs = [.bl k] ∧ Q (.int (if k then 1 else 0)) H
theorem call_intA : CallR X (.type "int") kInt := call_int1
def kBool : List V → Hp → VK → Prop := fun xs H Q => (∃ i, xs = [.int i] ∧ Q (.bl (i != 0)) H) ∨ ∃ k, xs = [.bl k] ∧ Q (.bl k) H
theorem call_boolA : CallR X (.type "bool") kBool := call_bool1
def kAbs : List V → Hp → VK → Prop := fun xs H Q => ∃ i, xs = [.int i] ∧ Q (.int (if i < 0 then -i else i)) H
theorem call_absA : CallR X (.builtin "abs") kAbs := call_abs

/-! ### the steps -/
theorem c_var (h : σ[i]? = some (some v)) (q : Q v H) : tVar i σ H Q := ⟨v, h, q⟩
theorem c_c (q : Q v H) : tC v σ H Q := q
theorem c_op (q : ta σ H fun x H1 => tb σ H1 fun y H2 => r x y H2 Q) : tOp r ta tb σ H Q := q
theorem c_un {r : V → Hp → VK → Prop} (q : ta σ H fun x H1 => r x H1 Q) : tUn r ta σ H Q := q
theorem c_test {te : TE} (q : te σ H fun x H' => ∃ k, x = .bl k ∧ QB k H') : tTest te σ H QB := q
theorem c_B {te : TE} (q : te σ H fun x H' => ∃ k, x = .bl k ∧ QB k H') : tB te σ H QB := q
theorem c_bl {b : Bool} {R : Bool → Prop} (q : R b) : ∃ k, V.bl b = .bl k ∧ R k := ⟨b, rfl, q⟩
theorem c_chain (q : ta σ H fun x H1 => tb σ H1 fun y H2 => r x y H2 fun z H3 => ∃ k, z = .bl k ∧ (if k = true then tc σ H3 fun w' H4 => r' y w' H4 Q else Q (.bl false) H3)) : tChain r r' ta tb tc σ H Q := q
theorem c_not (q : t σ H fun c H1 => QB (!c) H1) : tNot t σ H QB := q
theorem c_and (q : t σ H fun c H1 => if c = true then u σ H1 QB else QB false H1) : tAnd t u σ H QB := q
theorem c_or (q : t σ H fun c H1 => if c = true then QB true H1 else u σ H1 QB) : tOr t u σ H QB := q
theorem c_andV (q : ta σ H fun x H1 => ∃ c, x = .bl c ∧ if c = true then tb σ H1 Q else Q (.bl false) H1) : tAndV ta tb σ H Q := q
theorem c_orV (q : ta σ H fun x H1 => ∃ c, x = .bl c ∧ if c = true then Q (.bl true) H1 else tb σ H1 Q) : tOrV ta tb σ H Q := q
theorem c_notV (q : ta σ H fun x H1 => ∃ c, x = .bl c ∧ Q (.bl (!c)) H1) : tNotV ta σ H Q := q
theorem c_ifE (q : t σ H fun c H1 => if c = true then ta σ H1 Q else tb σ H1 Q) : tIf t ta tb σ H Q := q
theorem c_ifD {p : Prop} [Decidable p] {A B : Prop} (h1 : p → A) (h2 : ¬ p → B) : if decide p = true then A else B := by
  by_cases h : p
  · rw [if_pos (decide_eq_true h)]; exact h1 h
  · rw [if_neg (by simpa using h)]; exact h2 h
theorem c_ifT {p : Prop} [Decidable p] {A B : Prop} (h : p) (h1 : A) : if decide p = true then A else B := c_ifD (fun _ => h1) fun z => absurd h z
theorem c_ifF {p : Prop} [Decidable p] {A B : Prop} (h : ¬ p) (h1 : B) : if decide p = true then A else B := c_ifD (fun z => absurd z h) fun _ => h1
theorem c_ifDN {p : Prop} [Decidable p] {A B : Prop} (h1 : ¬ p → A) (h2 : p → B) : if (!decide p) = true then A else B := by
  by_cases h : p
  · rw [if_neg (by simp [h])]; exact h2 h
  · rw [if_pos (by simp [h])]; exact h1 h
theorem c_ifTN {p : Prop} [Decidable p] {A B : Prop} (h : ¬ p) (h1 : A) : if (!decide p) = true then A else B := c_ifDN (fun _ => h1) fun z => absurd z h
theorem c_ifFN {p : Prop} [Decidable p] {A B : Prop} (h : p) (h1 : B) : if (!decide p) = true then A else B := c_ifDN (fun z => absurd h z) fun _ => h1
theorem c_ifB {b : Bool} {A B : Prop} (h1 : b = true → A) (h2 : b = false → B) : if b = true then A else B := by
  cases b with
  | true => rw [if_pos rfl]; exact h1 rfl
  | false => rw [if_neg (by simp)]; exact h2 rfl
theorem c_ifNT {A B : Prop} (h : B) : if (!true) = true then A else B := by rw [if_neg (by simp)]; exact h
theorem c_ifNF {A B : Prop} (h : A) : if (!false) = true then A else B := by rw [if_pos (by simp)]; exact h
theorem c_nn {b : Bool} (q : QB b H) : QB (!!b) H := by rw [Bool.not_not]; exact q
/-! arguments -/
variable {QA : List V → Hp → Prop} {tr : TA}
theorem c_nil (q : QA [] H) : tNil σ H QA := q
theorem c_cons (q : ta σ H fun x H1 => tr σ H1 fun xs H2 => QA (x :: xs) H2) : tCons ta tr σ H QA := q
theorem c_CB {rr : List V → Hp → VK → Prop} (q : tr σ H fun vs H1 => rr vs H1 Q) : tCB rr tr σ H Q := q
theorem c_callX {sp : Sp} {E : L2.St → XK} (q : tr σ H fun vs H1 => sp vs H1 Q (E σ)) : tCallX sp E tr σ H Q := q
theorem c_methX {C : Addr} {m : Str} {sp : Sp} {E : L2.St → XK} (q : ta σ H fun x H1 => ∃ a dx fs, x = .ref a ∧ H1 a = some (.ins C dx fs) ∧ fs.lookup m = none ∧ tr σ H1 fun vs H2 => sp (x :: vs) H2 Q (E σ)) : tMethX C m sp E ta tr σ H Q := q
theorem c_meth1 {C a dx : Addr} {fs : List (Str × V)} {m : Str} {R : V → Prop} (ha : H a = some (.ins C dx fs)) (hm : fs.lookup m = none) (q : R (.ref a)) : ∃ a' dx fs, V.ref a = .ref a' ∧ H a' = some (.ins C dx fs) ∧ fs.lookup m = none ∧ R (.ref a) := ⟨a, dx, fs, rfl, ha, hm, q⟩
theorem c_makeX {C : Addr} {sp : Sp} {E : L2.St → XK} (q : tr σ H fun vs H1 => ∀ x dx, H1 x = none → H1 dx = none → dx ≠ x → sp (.ref x :: vs) (upd (upd H1 dx (.own x)) x (.ins C dx [])) (fun v H2 => v = .non ∧ Q (.ref x) H2) (E σ)) : tMakeX C sp E tr σ H Q := q
theorem c_tup (q : tr σ H fun xs H1 => xs.length ≤ sizeLine ∧ ∀ p, H1 p = none → Q (.ref p) (upd H1 p (.tup xs))) : tTup tr σ H Q := q
theorem c_lst (q : tr σ H fun xs H1 => xs.length ≤ sizeLine ∧ ∀ p, H1 p = none → Q (.ref p) (upd H1 p (.lst xs))) : tLst tr σ H Q := q
theorem c_fld {f : Str} (q : ta σ H fun x H1 => ∃ a C dx fs v, x = .ref a ∧ H1 a = some (.ins C dx fs) ∧ Cls K C ∧ NoAttr K C f ∧ fs.lookup f = some v ∧ Q v H1) : tFld K ta f σ H Q := q
theorem c_fld1 {C dx a : Addr} {fs : List (Str × V)} {f : Str} (ha : H a = some (.ins C dx fs)) (hc : Cls K C) (hn : NoAttr K C f) {R : V → Prop} (hl : fs.lookup f = some v) (q : R v) :
    ∃ a' C dx fs v, V.ref a = .ref a' ∧ H a' = some (.ins C dx fs) ∧ Cls K C ∧ NoAttr K C f ∧ fs.lookup f = some v ∧ R v := ⟨a, C, dx, fs, v, rfl, ha, hc, hn, hl, q⟩
/-! values -/
variable {n m : Int} {b : Bool} {s z : Str}
theorem c_addI (q : Q (.int (n + m)) H) : rAddA K (.int n) (.int m) H Q := .inl ⟨n, m, rfl, rfl, q⟩
theorem c_addS (hl : s.length + z.length ≤ sizeLine) (q : Q (.str (s ++ z)) H) : rAddA K (.str s) (.str z) H Q := .inr (.inl ⟨s, z, rfl, rfl, hl, q⟩)
theorem c_subI (q : Q (.int (n - m)) H) : rSub (.int n) (.int m) H Q := ⟨n, m, rfl, rfl, q⟩
theorem c_mulI (h : CMulW n m) (q : Q (.int (n * m)) H) : rMulA (.int n) (.int m) H Q := .inl ⟨n, m, rfl, rfl, h, q⟩
theorem c_divI (h : CDivW n m) (q : Q (.int (n / m)) H) : rDiv (.int n) (.int m) H Q := ⟨n, m, rfl, rfl, h, q⟩
theorem c_modI (h : 0 < m) (q : Q (.int (n % m)) H) : rMod (.int n) (.int m) H Q := ⟨n, m, rfl, rfl, h, q⟩
theorem c_powI (h : CPow n m) (q : Q (.int (n ^ m.toNat)) H) : rPow (.int n) (.int m) H Q := ⟨n, m, rfl, rfl, h, q⟩
theorem c_negI (q : Q (.int (-n)) H) : uNeg (.int n) H Q := ⟨n, rfl, q⟩
theorem c_lt (q : Q (.bl (decide (n < m))) H) : rLt (.int n) (.int m) H Q := ⟨n, m, rfl, rfl, q⟩
theorem c_le (q : Q (.bl (decide (n ≤ m))) H) : rLe (.int n) (.int m) H Q := ⟨n, m, rfl, rfl, q⟩
theorem c_gt (q : Q (.bl (decide (m < n))) H) : rGt (.int n) (.int m) H Q := ⟨n, m, rfl, rfl, q⟩
theorem c_ge (q : Q (.bl (decide (m ≤ n))) H) : rGe (.int n) (.int m) H Q := ⟨n, m, rfl, rfl, q⟩
theorem c_eqI (q : Q (.bl (decide (n = m))) H) : rEqA K (.int n) (.int m) H Q := .inl ⟨rfl, by rw [show decide (V.int n = V.int m) = decide (n = m) by simp]; exact q⟩
theorem c_neI (q : Q (.bl (!decide (n = m))) H) : rNeA K (.int n) (.int m) H Q := .inl ⟨rfl, by rw [show decide (V.int n = V.int m) = decide (n = m) by simp]; exact q⟩
theorem c_eqB {b c : Bool} (q : Q (.bl (decide (b = c))) H) : rEqA K (.bl b) (.bl c) H Q := .inl ⟨rfl, by rw [show decide (V.bl b = V.bl c) = decide (b = c) by simp]; exact q⟩
theorem c_neB {b c : Bool} (q : Q (.bl (!decide (b = c))) H) : rNeA K (.bl b) (.bl c) H Q := .inl ⟨rfl, by rw [show decide (V.bl b = V.bl c) = decide (b = c) by simp]; exact q⟩
theorem c_eqS (q : Q (.bl (decide (s = z))) H) : rEqA K (.str s) (.str z) H Q := .inl ⟨rfl, by rw [show decide (V.str s = V.str z) = decide (s = z) by simp]; exact q⟩
theorem c_neS (q : Q (.bl (!decide (s = z))) H) : rNeA K (.str s) (.str z) H Q := .inl ⟨rfl, by rw [show decide (V.str s = V.str z) = decide (s = z) by simp]; exact q⟩
theorem c_is0 (q : Q (.bl (decide (x = .non))) H) : rIs0 x .non H Q := ⟨rfl, q⟩
theorem c_isnt0 (q : Q (.bl (!decide (x = .non))) H) : rIsnt0 x .non H Q := ⟨rfl, q⟩
theorem c_intI (q : Q (.int n) H) : kInt [.int n] H Q := .inl ⟨n, rfl, q⟩
theorem c_intB (q : Q (.int (if b then 1 else 0)) H) : kInt [.bl b] H Q := .inr ⟨b, rfl, q⟩
theorem c_boolB (q : Q (.bl b) H) : kBool [.bl b] H Q := .inr ⟨b, rfl, q⟩
theorem c_abs (q : Q (.int (if n < 0 then -n else n)) H) : kAbs [.int n] H Q := ⟨n, rfl, q⟩
theorem c_lenL {a : Addr} {xs : List V} (h : SqL K H a xs) (q : Q (.int xs.length) H) : kLen K [.ref a] H Q := ⟨_, _, rfl, .inl ⟨_, h, rfl⟩, q⟩
theorem c_ixL {a : Addr} {xs : List V} (h : SqL K H a xs) (ha : atI xs n = some v) (q : Q v H) : rIx K (.ref a) (.int n) H Q := .inl ⟨_, _, _, _, rfl, rfl, h, ha, q⟩
theorem c_ixT {a : Addr} {xs : List V} (h : SqT K H a xs) (ha : atI xs n = some v) (q : Q v H) : rIx K (.ref a) (.int n) H Q := .inr (.inl ⟨_, _, _, _, rfl, rfl, h, ha, q⟩)
/-! statements -/
variable {D : Ends} {t1 t2 : TS}
theorem c_seq (h : t1 { D with nx := t2 D } σ H) : tSeq t1 t2 D σ H := h
/-- what follows behind t1 by what is true there -/
theorem c_cut (P : L2.St → Hp → Prop) (h2 : ∀ σ H, P σ H → t2 D σ H) (h1 : ∀ N : L2.St → Hp → Prop, (∀ σ H, P σ H → N σ H) → t1 { D with nx := N } σ H) : tSeq t1 t2 D σ H := h1 (t2 D) h2
theorem c_next (q : D.nx σ H) : tNext D σ H := q
theorem c_asg (q : ta σ H fun x H1 => D.nx (σ.set i (some x)) H1) : tAsg ta (gName i) D σ H := q
theorem c_drop (q : ta σ H fun _ H1 => D.nx σ H1) : tDrop ta D σ H := q
theorem c_ret (q : ta σ H D.rt) : tRet ta D σ H := q
theorem c_retN (q : D.rt .non H) : tRetN D σ H := q
theorem c_ifS (q : t σ H fun b H1 => if b = true then t1 D σ H1 else t2 D σ H1) : tIfS t t1 t2 D σ H := q
theorem c_sfld {f : Str} {tv : TE} (q : tv σ H fun y H1 => ta σ H1 fun x H2 => ∃ a C dx fs, x = .ref a ∧ H2 a = some (.ins C dx fs) ∧ Cls K C ∧ NoAttr K C f ∧ fs.length < 1000 ∧ D.nx σ (upd H2 a (.ins C dx (putF f y fs)))) : sFld K ta tv f D σ H := q
theorem c_sfld1 {f : Str} {C dx a : Addr} {fs : List (Str × V)} {R : Hp → Prop} (ha : H a = some (.ins C dx fs)) (hc : Cls K C) (hn : NoAttr K C f) (hl : fs.length < 1000) (q : R (upd H a (.ins C dx (putF f y fs)))) :
    ∃ a' C dx fs, V.ref a = .ref a' ∧ H a' = some (.ins C dx fs) ∧ Cls K C ∧ NoAttr K C f ∧ fs.length < 1000 ∧ R (upd H a' (.ins C dx (putF f y fs))) := ⟨a, C, dx, fs, rfl, ha, hc, hn, hl, q⟩
end

/-- what isinstance asks of a class of the text's own -/
structure IsiC (K : PySem.W.Frag) (C : Addr) : Prop where
  cl : Cls K C
  ha : PySem.W.findIn K (.ref C) "__class__" = some (some (.builtin "object.__class__"))
  hn : PySem.W.specialIn K (.builtin "object.__class__") "__get__" = some (some (.builtin "getset_descriptor.__get__"))
  htk : PySem.W.takesIn K (.builtin "object.__class__") = some true
  hm : PySem.W.mroIn K C (.type "object") = some true
  kit : PySem.W.kitOne K (.ref C) (.ref C) = some true
section
variable {H : Hp} {Q : VK} {K : PySem.W.Frag}
theorem c_isiOwn {C a dx : Addr} {fs : List (Str × V)} (T : IsiC K C) (h : H a = some (.ins C dx fs)) (q : Q (.bl true) H) : rIsi K [.ref a, .ref C] H Q :=
  ⟨_, _, _, _, true, rfl, .own C, .base (.ins h T.cl T.ha T.hn T.htk T.hm), T.kit, q⟩
theorem c_isi {x : V} {a b : String} {r : Bool} (ht : TyX K H x (.type a)) (hk : kitB a b = some r) (q : Q (.bl r) H) : rIsi K [x, .ty b] H Q :=
  ⟨_, _, _, _, r, rfl, .ty b, ht, kit_ty hk, q⟩
theorem c_isi_non_int  (q : Q (.bl false) H) : rIsi K [.non, .ty "int"] H Q := c_isi (.base (.non)) (by decide +kernel) q
theorem c_isi_non_bool  (q : Q (.bl false) H) : rIsi K [.non, .ty "bool"] H Q := c_isi (.base (.non)) (by decide +kernel) q
theorem c_isi_non_str  (q : Q (.bl false) H) : rIsi K [.non, .ty "str"] H Q := c_isi (.base (.non)) (by decide +kernel) q
theorem c_isi_non_tuple  (q : Q (.bl false) H) : rIsi K [.non, .ty "tuple"] H Q := c_isi (.base (.non)) (by decide +kernel) q
theorem c_isi_non_list  (q : Q (.bl false) H) : rIsi K [.non, .ty "list"] H Q := c_isi (.base (.non)) (by decide +kernel) q
theorem c_isi_non_dict  (q : Q (.bl false) H) : rIsi K [.non, .ty "dict"] H Q := c_isi (.base (.non)) (by decide +kernel) q
theorem c_isi_bl_int {b : Bool} (q : Q (.bl true) H) : rIsi K [(.bl b), .ty "int"] H Q := c_isi (.base (.bl _)) (by decide +kernel) q
theorem c_isi_bl_bool {b : Bool} (q : Q (.bl true) H) : rIsi K [(.bl b), .ty "bool"] H Q := c_isi (.base (.bl _)) (by decide +kernel) q
theorem c_isi_bl_str {b : Bool} (q : Q (.bl false) H) : rIsi K [(.bl b), .ty "str"] H Q := c_isi (.base (.bl _)) (by decide +kernel) q
theorem c_isi_bl_tuple {b : Bool} (q : Q (.bl false) H) : rIsi K [(.bl b), .ty "tuple"] H Q := c_isi (.base (.bl _)) (by decide +kernel) q
theorem c_isi_bl_list {b : Bool} (q : Q (.bl false) H) : rIsi K [(.bl b), .ty "list"] H Q := c_isi (.base (.bl _)) (by decide +kernel) q
theorem c_isi_bl_dict {b : Bool} (q : Q (.bl false) H) : rIsi K [(.bl b), .ty "dict"] H Q := c_isi (.base (.bl _)) (by decide +kernel) q
theorem c_isi_int_int {n : Int} (q : Q (.bl true) H) : rIsi K [(.int n), .ty "int"] H Q := c_isi (.base (.int _)) (by decide +kernel) q
theorem c_isi_int_bool {n : Int} (q : Q (.bl false) H) : rIsi K [(.int n), .ty "bool"] H Q := c_isi (.base (.int _)) (by decide +kernel) q
theorem c_isi_int_str {n : Int} (q : Q (.bl false) H) : rIsi K [(.int n), .ty "str"] H Q := c_isi (.base (.int _)) (by decide +kernel) q
theorem c_isi_int_tuple {n : Int} (q : Q (.bl false) H) : rIsi K [(.int n), .ty "tuple"] H Q := c_isi (.base (.int _)) (by decide +kernel) q
theorem c_isi_int_list {n : Int} (q : Q (.bl false) H) : rIsi K [(.int n), .ty "list"] H Q := c_isi (.base (.int _)) (by decide +kernel) q
theorem c_isi_int_dict {n : Int} (q : Q (.bl false) H) : rIsi K [(.int n), .ty "dict"] H Q := c_isi (.base (.int _)) (by decide +kernel) q
theorem c_isi_str_int {s : Str} (q : Q (.bl false) H) : rIsi K [(.str s), .ty "int"] H Q := c_isi (.base (.str _)) (by decide +kernel) q
theorem c_isi_str_bool {s : Str} (q : Q (.bl false) H) : rIsi K [(.str s), .ty "bool"] H Q := c_isi (.base (.str _)) (by decide +kernel) q
theorem c_isi_str_str {s : Str} (q : Q (.bl true) H) : rIsi K [(.str s), .ty "str"] H Q := c_isi (.base (.str _)) (by decide +kernel) q
theorem c_isi_str_tuple {s : Str} (q : Q (.bl false) H) : rIsi K [(.str s), .ty "tuple"] H Q := c_isi (.base (.str _)) (by decide +kernel) q
theorem c_isi_str_list {s : Str} (q : Q (.bl false) H) : rIsi K [(.str s), .ty "list"] H Q := c_isi (.base (.str _)) (by decide +kernel) q
theorem c_isi_str_dict {s : Str} (q : Q (.bl false) H) : rIsi K [(.str s), .ty "dict"] H Q := c_isi (.base (.str _)) (by decide +kernel) q
theorem c_isi_list_int {a : Addr} {xs : List V} (h : H a = some (.lst xs)) (q : Q (.bl false) H) : rIsi K [.ref a, .ty "int"] H Q := c_isi (.base (.lst h)) (by decide +kernel) q
theorem c_isi_list_bool {a : Addr} {xs : List V} (h : H a = some (.lst xs)) (q : Q (.bl false) H) : rIsi K [.ref a, .ty "bool"] H Q := c_isi (.base (.lst h)) (by decide +kernel) q
theorem c_isi_list_str {a : Addr} {xs : List V} (h : H a = some (.lst xs)) (q : Q (.bl false) H) : rIsi K [.ref a, .ty "str"] H Q := c_isi (.base (.lst h)) (by decide +kernel) q
theorem c_isi_list_tuple {a : Addr} {xs : List V} (h : H a = some (.lst xs)) (q : Q (.bl false) H) : rIsi K [.ref a, .ty "tuple"] H Q := c_isi (.base (.lst h)) (by decide +kernel) q
theorem c_isi_list_list {a : Addr} {xs : List V} (h : H a = some (.lst xs)) (q : Q (.bl true) H) : rIsi K [.ref a, .ty "list"] H Q := c_isi (.base (.lst h)) (by decide +kernel) q
theorem c_isi_list_dict {a : Addr} {xs : List V} (h : H a = some (.lst xs)) (q : Q (.bl false) H) : rIsi K [.ref a, .ty "dict"] H Q := c_isi (.base (.lst h)) (by decide +kernel) q
theorem c_isi_tuple_int {a : Addr} {xs : List V} (h : H a = some (.tup xs)) (q : Q (.bl false) H) : rIsi K [.ref a, .ty "int"] H Q := c_isi (.base (.tup h)) (by decide +kernel) q
theorem c_isi_tuple_bool {a : Addr} {xs : List V} (h : H a = some (.tup xs)) (q : Q (.bl false) H) : rIsi K [.ref a, .ty "bool"] H Q := c_isi (.base (.tup h)) (by decide +kernel) q
theorem c_isi_tuple_str {a : Addr} {xs : List V} (h : H a = some (.tup xs)) (q : Q (.bl false) H) : rIsi K [.ref a, .ty "str"] H Q := c_isi (.base (.tup h)) (by decide +kernel) q
theorem c_isi_tuple_tuple {a : Addr} {xs : List V} (h : H a = some (.tup xs)) (q : Q (.bl true) H) : rIsi K [.ref a, .ty "tuple"] H Q := c_isi (.base (.tup h)) (by decide +kernel) q
theorem c_isi_tuple_list {a : Addr} {xs : List V} (h : H a = some (.tup xs)) (q : Q (.bl false) H) : rIsi K [.ref a, .ty "list"] H Q := c_isi (.base (.tup h)) (by decide +kernel) q
theorem c_isi_tuple_dict {a : Addr} {xs : List V} (h : H a = some (.tup xs)) (q : Q (.bl false) H) : rIsi K [.ref a, .ty "dict"] H Q := c_isi (.base (.tup h)) (by decide +kernel) q
end
section
variable {X : Cx} {CX : CXT} {k : Nat} {g C : Addr} {sp : Sp} {E : L2.St → XK} {fe e : Expr} {es : List Expr} {tf : TE} {t : TA} {pos : Pos}
/-- f(e, ..), f an expression that gives an instance of C -/
def tCallI (C : Addr) (sp : Sp) (E : L2.St → XK) (tf : TE) (t : TA) : TE := fun σ H Q => tf σ H fun y H1 => ∃ a, y = V.ref a ∧ t σ H1 fun vs H2 => (∃ dx fs, H2 a = some (.ins C dx fs)) ∧ sp (V.ref a :: vs) H2 Q (E σ)
theorem pe_callI (hf : PE X fe tf) (c : StX.CallO X.K C g) (F : FnR X.prog X.w X.K X.mg X.base CX k g sp) (hr : Room k X.A) (hx : ∀ σ, PassesAt CX X σ (E σ)) (ha : PA X (e :: es) t)
    (ht : eval (.Call fe (e :: es) [] pos) X.env = (do callWith pos (← eval fe X.env) [] (backTo pos (starEach (e :: es) X.env)) (backToKw pos (keywordEach [] X.env))) := by rfl)
    (he : starEach (e :: es) X.env = (false, eval e X.env) :: starEach es X.env := by rfl) (hpl : (backTo pos (starEach es X.env)).any (·.1) = false := by rfl) : PE X (.Call fe (e :: es) [] pos) (tCallI C sp E tf t) := by
  refine ⟨fun pins s σ H Q I h => ?_⟩
  refine Call_ (thn (hf.run pins s σ H _ I h) fun u s1 ⟨y, H1, I1, ry, a, ey, q⟩ => ?_) ht
  subst ey
  obtain rfl : u = Value.ref a := ry
  refine StX.callO_with (thn (ha.run pos pins s1 σ H1 _ I1 q) fun us s2 ⟨vs, H2, I2, r, ⟨dx, fs, hi⟩, q2⟩ => ?_) he hpl
  obtain ⟨ox, od, J, hd⟩ := StX.insC_at I2 (.inr ⟨dx, fs, hi⟩)
  refine ⟨⟨C, ox, od, J, hd⟩, wpAny_call (PySem.W.kco_code I2.kIn J hd c.at_ c.fn c.fi ?_)⟩
  refine codeAny_mono (F X.A X.stack s2 H2 (.ref a :: us) (.ref a :: vs) Q (E σ) hr I2.env0 (.cons rfl r) q2) fun r s' hq => ?_
  cases r with
  | error e => exact hx σ pins H2 s2 e s' I2 hq
  | ok fl =>
    cases fl with
    | ret u => exact I2.after hq
    | next => exact False.elim hq
    | brk => exact False.elim hq
    | cont => exact False.elim hq
end
theorem c_callI {C : Addr} {sp : Sp} {E : L2.St → XK} {tf : TE} {tr : TA} {σ : L2.St} {H : Hp} {Q : VK} (q : tf σ H fun y H1 => ∃ a, y = V.ref a ∧ tr σ H1 fun vs H2 => (∃ dx fs, H2 a = some (.ins C dx fs)) ∧ sp (V.ref a :: vs) H2 Q (E σ)) : tCallI C sp E tf tr σ H Q := q
theorem c_insI {H : Hp} {a C dx : Addr} {fs : List (Str × V)} {R : Prop} (h : H a = some (.ins C dx fs)) (q : R) : (∃ dx fs, H a = some (.ins C dx fs)) ∧ R := ⟨⟨dx, fs, h⟩, q⟩
/-- StX.pe_callO's reading -/
theorem c_callO {X : Cx} {C : Addr} {sp : Sp} {E : XK} {tf : TE} {tr : TA} {σ : L2.St} {H : Hp} {Q : VK} (q : tf σ H fun y H1 => ∃ a, y = V.ref a ∧ tr σ H1 fun vs H2 => StX.InsC X H2 a C ∧ sp (V.ref a :: vs) H2 Q E) : StX.tCallO X C sp E tf tr σ H Q := q
theorem c_ref {a : Addr} {R : Addr → Prop} (q : R a) : ∃ b, V.ref a = V.ref b ∧ R b := ⟨a, rfl, q⟩
theorem c_insC {X : Cx} {H : Hp} {a C dx : Addr} {fs : List (Str × V)} {R : Prop} (h : H a = some (.ins C dx fs)) (q : R) : StX.InsC X H a C ∧ R := ⟨.inr ⟨dx, fs, h⟩, q⟩
theorem c_own2 {C a b dx dy : Addr} {fs gs : List (Str × V)} {sp : Sp} {E : XK} {H : Hp} {Q : VK} (h1 : H a = some (.ins C dx fs)) (h2 : H b = some (.ins C dy gs)) (q : sp [.ref a, .ref b] H Q E) : rOwn2 C sp E (.ref a) (.ref b) H Q := ⟨a, b, dx, dy, fs, gs, rfl, rfl, h1, h2, q⟩
theorem c_ownNe {C a b dx dy : Addr} {fs gs : List (Str × V)} {sp : Sp} {E : XK} {H : Hp} {Q : VK} (h1 : H a = some (.ins C dx fs)) (h2 : H b = some (.ins C dy gs)) (q : sp [.ref a, .ref b] H (fun v H' => ∃ c, v = .bl c ∧ Q (.bl (!c)) H') E) : rOwnNe C sp E (.ref a) (.ref b) H Q := ⟨a, b, dx, dy, fs, gs, rfl, rfl, h1, h2, q⟩
theorem c_ownI {C a dx : Addr} {fs : List (Str × V)} {i : Int} {sp : Sp} {E : XK} {H : Hp} {Q : VK} (h1 : H a = some (.ins C dx fs)) (q : sp [.ref a, .int i] H Q E) : rOwnI C sp E (.ref a) (.int i) H Q := ⟨a, dx, fs, i, rfl, rfl, h1, q⟩
theorem c_ownU {C a dx : Addr} {fs : List (Str × V)} {sp : Sp} {E : XK} {H : Hp} {Q : VK} (h1 : H a = some (.ins C dx fs)) (q : sp [.ref a] H Q E) : rOwnU C sp E (.ref a) H Q := ⟨a, dx, fs, rfl, h1, q⟩
theorem Same.mk {H : Hp} {x dx C : Addr} {o : HO} (n1 : H x = none) (n2 : H dx = none) : Same H (upd (upd H dx o) x (.ins C dx [])) := fun b u e => by
  rw [upd_ne (ne_of_none e n1), upd_ne (ne_of_none e n2)]; exact e
theorem Same.upd {H H1 : Hp} {x : Addr} {o : HO} (s : Same H H1) (n : H x = none) : Same H (L2.upd H1 x o) := fun b u e => by
  rw [upd_ne (ne_of_none e n)]; exact s b u e
theorem Same.new {H : Hp} {x : Addr} {o : HO} (n : H x = none) : Same H (L2.upd H x o) := Same.upd (Same.refl H) n
theorem c_start {t : TS} {D : Ends} {σ σ' : L2.St} {H : Hp} (e : σ' = σ) (h : t D σ' H) : t D σ H := e ▸ h
end Lb

namespace LbW
open PySem PySem.Spec PyProof.Rows L2 Lb
/-! the text by places -/
def top (i : Nat) : Stmt := PySem.Challenge.pw_lentbytes_k02_first_turn.main.body.getD i (.Pass ⟨0, 0, 0, 0⟩)
abbrev s_Form___init__ : Stmt := inClass (top 2) 0
abbrev s_first_turn : Stmt := top 3
abbrev s__law_number : Stmt := top 5
abbrev s__law_is_integer : Stmt := top 6
abbrev s__law_sign : Stmt := top 7
abbrev s_law : Stmt := top 8
/-! where the text's things stand -/
structure Ad where
  c_Form : Addr
  f_Form___init__ : Addr
  d_Form___init__ : FuncData
  f_first_turn : Addr
  d_first_turn : FuncData
  f__law_number : Addr
  d__law_number : FuncData
  f__law_is_integer : Addr
  d__law_is_integer : FuncData
  f__law_sign : Addr
  d__law_sign : FuncData
  f_law : Addr
  d_law : FuncData
structure Txt (K : PySem.W.Frag) (mg : Str → Option Value) (A : Ad) : Prop where
  F_Form___init__ : Fun K "__init__" "Form.__init__" s_Form___init__ A.f_Form___init__ A.d_Form___init__
  b_Form___init__ : Binds K A.d_Form___init__ ["self", "alpha", "beta"] []
  mt_Form___init__ : Meth K A.c_Form "__init__" A.f_Form___init__
  F_first_turn : Fun K "first_turn" "first_turn" s_first_turn A.f_first_turn A.d_first_turn
  b_first_turn : Binds K A.d_first_turn ["f", "g"] []
  g_first_turn : mg "first_turn" = some (.ref A.f_first_turn)
  kp_first_turn : PySem.W.keepIn K (.ref A.f_first_turn) = true
  F__law_number : Fun K "_law_number" "_law_number" s__law_number A.f__law_number A.d__law_number
  b__law_number : Binds K A.d__law_number ["_law_script", "_law_k"] []
  g__law_number : mg "_law_number" = some (.ref A.f__law_number)
  kp__law_number : PySem.W.keepIn K (.ref A.f__law_number) = true
  F__law_is_integer : Fun K "_law_is_integer" "_law_is_integer" s__law_is_integer A.f__law_is_integer A.d__law_is_integer
  b__law_is_integer : Binds K A.d__law_is_integer ["_law_value"] []
  g__law_is_integer : mg "_law_is_integer" = some (.ref A.f__law_is_integer)
  kp__law_is_integer : PySem.W.keepIn K (.ref A.f__law_is_integer) = true
  F__law_sign : Fun K "_law_sign" "_law_sign" s__law_sign A.f__law_sign A.d__law_sign
  b__law_sign : Binds K A.d__law_sign ["_law_number_here"] []
  g__law_sign : mg "_law_sign" = some (.ref A.f__law_sign)
  kp__law_sign : PySem.W.keepIn K (.ref A.f__law_sign) = true
  F_law : Fun K "law" "law" s_law A.f_law A.d_law
  b_law : Binds K A.d_law ["_law_script"] []
  g_law : mg "law" = some (.ref A.f_law)
  kp_law : PySem.W.keepIn K (.ref A.f_law) = true
  g_Form : mg "Form" = some (.ref A.c_Form)
  cl_Form : Cls K A.c_Form
  mk_Form : Mk K A.c_Form A.f_Form___init__
  na_Form_alpha : NoAttr K A.c_Form "alpha"
  na_Form_beta : NoAttr K A.c_Form "beta"
  ic_Form : IsiC K A.c_Form
  z_bool : mg "bool" = none
  z_int : mg "int" = none
  z_isinstance : mg "isinstance" = none
  z_len : mg "len" = none
theorem ne_alpha_beta : ¬ (("alpha" : Str) = "beta") := by decide +kernel
theorem ne_beta_alpha : ¬ (("beta" : Str) = "alpha") := by decide +kernel
theorem ne___add___alpha : ¬ (("__add__" : Str) = "alpha") := by decide +kernel
theorem ne___add___beta : ¬ (("__add__" : Str) = "beta") := by decide +kernel
theorem ne___call___alpha : ¬ (("__call__" : Str) = "alpha") := by decide +kernel
theorem ne___call___beta : ¬ (("__call__" : Str) = "beta") := by decide +kernel
theorem ne___eq___alpha : ¬ (("__eq__" : Str) = "alpha") := by decide +kernel
theorem ne___eq___beta : ¬ (("__eq__" : Str) = "beta") := by decide +kernel
theorem ne___init___alpha : ¬ (("__init__" : Str) = "alpha") := by decide +kernel
theorem ne___init___beta : ¬ (("__init__" : Str) = "beta") := by decide +kernel
theorem ne___mul___alpha : ¬ (("__mul__" : Str) = "alpha") := by decide +kernel
theorem ne___mul___beta : ¬ (("__mul__" : Str) = "beta") := by decide +kernel
theorem ne___neg___alpha : ¬ (("__neg__" : Str) = "alpha") := by decide +kernel
theorem ne___neg___beta : ¬ (("__neg__" : Str) = "beta") := by decide +kernel
theorem ne___sub___alpha : ¬ (("__sub__" : Str) = "alpha") := by decide +kernel
theorem ne___sub___beta : ¬ (("__sub__" : Str) = "beta") := by decide +kernel
theorem ne_number_at_alpha : ¬ (("number_at" : Str) = "alpha") := by decide +kernel
theorem ne_number_at_beta : ¬ (("number_at" : Str) = "beta") := by decide +kernel
theorem lk_nil (f : Str) : ([] : List (Str × V)).lookup f = none := rfl
theorem lk_cons (f g : Str) (v : V) (fs : List (Str × V)) : ((g, v) :: fs).lookup f = if f = g then some v else fs.lookup f := by
  by_cases e : f = g
  · subst e; simp [List.lookup]
  · have : (f == g) = false := by simpa using e
    simp [List.lookup, this, e]
local macro_rules | `(tactic| walk_at "lb_lk") => `(tactic| ((try simp only [lk_cons, lk_nil, if_true, if_false, ne_alpha_beta, ne_beta_alpha, ne___add___alpha, ne___add___beta, ne___call___alpha, ne___call___beta, ne___eq___alpha, ne___eq___beta, ne___init___alpha, ne___init___beta, ne___mul___alpha, ne___mul___beta, ne___neg___alpha, ne___neg___beta, ne___sub___alpha, ne___sub___beta, ne_number_at_alpha, ne_number_at_beta]); (try rfl)))
local macro_rules | `(tactic| walk_at "lb_pf") => `(tactic| (simp only [putF, upd_upd, if_true, if_false, ne_alpha_beta, ne_beta_alpha, ne___add___alpha, ne___add___beta, ne___call___alpha, ne___call___beta, ne___eq___alpha, ne___eq___beta, ne___init___alpha, ne___init___beta, ne___mul___alpha, ne___mul___beta, ne___neg___alpha, ne___neg___beta, ne___sub___alpha, ne___sub___beta, ne_number_at_alpha, ne_number_at_beta]))
local macro_rules | `(tactic| walk_at "lb_T") => `(tactic| first | exact Txt.cl_Form (by assumption) | exact Txt.na_Form_alpha (by assumption) | exact Txt.na_Form_beta (by assumption) | exact Txt.ic_Form (by assumption))
section
variable {P : Program} {w : World} {K : PySem.W.Frag} {mg : Str → Option Value} {base : Heap} {A : Ad}
/-! the steps of a reading -/
local macro_rules | `(tactic| walk_at "lb_ne") => `(tactic| first | assumption | (refine Ne.symm ?_; assumption) | exact ne_of_none (by walk_at "lb_h") (by assumption) | exact Ne.symm (ne_of_none (by walk_at "lb_h") (by assumption)))
local macro_rules | `(tactic| walk_at "lb_h") => `(tactic| first | assumption | exact upd_same | (refine Eq.trans (upd_ne (by walk_at "lb_ne")) ?_; walk_at "lb_h") | ((refine (by assumption : Same _ _) _ _ ?_); walk_at "lb_h"))
/- one step of a reading -/
local macro_rules | `(tactic| walk_at "lb0") => `(tactic| first
  | with_reducible refine c_asg ?_ | with_reducible refine c_drop ?_ | with_reducible refine c_ret ?_ | with_reducible refine c_retN ?_ | with_reducible refine c_next ?_ | with_reducible refine c_sfld ?_
  | ((with_reducible refine' c_var ?h ?_); (case h => rfl)) | with_reducible refine c_c ?_ | with_reducible refine c_op ?_ | with_reducible refine c_un ?_ | with_reducible refine c_test ?_ | with_reducible refine c_B ?_
  | with_reducible refine c_cons ?_ | with_reducible refine c_nil ?_ | with_reducible refine c_CB ?_ | with_reducible refine c_callX ?_ | with_reducible refine c_makeX ?_ | with_reducible refine c_methX ?_
  | with_reducible refine c_bl ?_ | with_reducible refine iteT ?_ | with_reducible refine iteF ?_ | with_reducible refine c_ifNT ?_ | with_reducible refine c_ifNF ?_ | with_reducible refine c_chain ?_ | with_reducible refine c_not ?_ | with_reducible refine c_and ?_ | with_reducible refine c_or ?_ | with_reducible refine c_andV ?_ | with_reducible refine c_orV ?_ | with_reducible refine c_notV ?_ | with_reducible refine c_ifE ?_
  | with_reducible refine c_fld ?_
  | ((with_reducible refine' c_fld1 ?h1 ?h2 ?h3 ?h4 ?_); (case h1 => walk_at "lb_h"); (case h2 => walk_at "lb_T"); (case h3 => walk_at "lb_T"); (case h4 => walk_at "lb_lk"))
  | ((with_reducible refine' c_sfld1 ?h1 ?h2 ?h3 ?h4 ?_); (case h1 => walk_at "lb_h"); (case h2 => walk_at "lb_T"); (case h3 => walk_at "lb_T"); (case h4 => simp +arith only [putF, List.length_cons, List.length_nil, ↓reduceIte]))
  | ((with_reducible refine' c_meth1 ?h1 ?h2 ?_); (case h1 => walk_at "lb_h"); (case h2 => walk_at "lb_lk"))
  | with_reducible refine c_addI ?_ | with_reducible refine c_subI ?_ | ((with_reducible refine' c_mulI ?h ?_); (case h => walk_at "lb_mul")) | ((with_reducible refine' c_divI ?h ?_); (case h => walk_at "lb_div")) | ((with_reducible refine' c_modI ?h ?_); (case h => walk_at "lb_pos"))
  | ((with_reducible refine' c_powI ?h ?_); (case h => exact ⟨by decide, by decide, by decide⟩); (try dsimp only [Int.reduceToNat, Int.reducePow])) | with_reducible refine c_negI ?_
  | with_reducible refine c_lt ?_ | with_reducible refine c_le ?_ | with_reducible refine c_gt ?_ | with_reducible refine c_ge ?_ | with_reducible refine c_eqI ?_ | with_reducible refine c_neI ?_ | with_reducible refine c_eqB ?_ | with_reducible refine c_neB ?_ | with_reducible refine c_eqS ?_ | with_reducible refine c_neS ?_
  | with_reducible refine c_is0 ?_ | with_reducible refine c_isnt0 ?_ | with_reducible refine c_intI ?_ | with_reducible refine c_intB ?_ | with_reducible refine c_boolB ?_ | with_reducible refine c_abs ?_
  | with_reducible refine c_isi_int_int ?_ | with_reducible refine c_isi_int_bool ?_ | with_reducible refine c_isi_bl_int ?_ | with_reducible refine c_isi_bl_bool ?_ | with_reducible refine c_isi_non_int ?_ | with_reducible refine c_isi_str_int ?_
  | ((with_reducible refine' c_isiOwn ?h1 ?h2 ?_); (case h1 => walk_at "lb_T"); (case h2 => walk_at "lb_h"))
  | with_reducible refine c_callI ?_ | ((with_reducible refine' c_insI ?h ?_); (case h => walk_at "lb_h")) | with_reducible refine c_ref ?_ | ((with_reducible refine' c_insC ?h ?_); (case h => walk_at "lb_h"))
  | ((with_reducible refine' c_own2 ?h1 ?h2 ?_); (case h1 => walk_at "lb_h"); (case h2 => walk_at "lb_h")) | ((with_reducible refine' c_ownNe ?h1 ?h2 ?_); (case h1 => walk_at "lb_h"); (case h2 => walk_at "lb_h"))
  | ((with_reducible refine' c_ownI ?h1 ?_); (case h1 => walk_at "lb_h")) | ((with_reducible refine' c_ownU ?h1 ?_); (case h1 => walk_at "lb_h"))
  | ((with_reducible refine' c_lenL ?h ?_); (case h => walk_at "lb_sq")) | ((with_reducible refine' c_ixL ?h ?h2 ?_); (case h => walk_at "lb_sq"); (case h2 => walk_at "lb_at")))
local macro_rules | `(tactic| walk_at "lb") => `(tactic| first
  | ((fail_if_success (with_reducible show tSeq (tIfS _ _ _) _ _ _ _)); (fail_if_success (with_reducible show tSeq (tFor _ _ _) _ _ _ _)); (fail_if_success (with_reducible show tSeq (tWhile _ _) _ _ _ _)); (with_reducible refine c_seq ?_))
  | walk_at "lb0")
local macro_rules | `(tactic| walk_at "lb_mul") => `(tactic| first | assumption | exact wide_mul (a := 200) (b := 200) (by omega) (by omega) (by decide) (by decide) (by decide))
local macro_rules | `(tactic| walk_at "lb_div") => `(tactic| first | assumption | exact wide_div (b := 200) (by omega) (by omega) (by decide) (by decide))
local macro_rules | `(tactic| walk_at "lb_at") => `(tactic| first | assumption | rfl)
local macro_rules | `(tactic| walk_at "lb_pos") => `(tactic| first | omega | decide)
local macro_rules | `(tactic| walk_at "lb_sq") => `(tactic| first | assumption | exact SqL.of (by walk_at "lb_h") | exact SqT.of (by walk_at "lb_h"))
local macro_rules | `(tactic| walk_at "lb_go") => `(tactic| ((repeat (walk_at "lb")); (try with_reducible show tSeq _ _ _ _ _)))
local macro_rules | `(tactic| walk_at "lb_if") => `(tactic| ((try with_reducible refine c_seq ?_); (with_reducible refine c_ifS ?_); walk_at "lb_go"))
local macro_rules | `(tactic| walk_at "lb_one") => `(tactic| ((repeat (walk_at "lb0")); (try with_reducible show tSeq _ _ _ _ _)))

def FormAt (A : Ad) (H : Hp) (p : Addr) (a b : Int) : Prop := ∃ dx, H p = some (.ins A.c_Form dx [("alpha", .int a), ("beta", .int b)])
theorem FormAt.same {A : Ad} {H H' : Hp} {p : Addr} {a b : Int} (s : Same H H') (h : FormAt A H p a b) : FormAt A H' p a b := let ⟨dx, e⟩ := h; ⟨dx, s _ _ e⟩
def sp_Form___init__ (K : PySem.W.Frag) (A : Ad) : Sp := fun vs H Q E => ∃ (p dx : Addr) (a b : Int), vs = [.ref p, .int a, .int b] ∧ H p = some (.ins A.c_Form dx []) ∧
  Q .non (upd H p (.ins A.c_Form dx [("alpha", .int a), ("beta", .int b)]))
/-- a new form is handed back -/
def newForm (A : Ad) (H : Hp) (Q : VK) (a b : Int) : Prop := ∀ p H', Same H H' → FormAt A H' p a b → Q (.ref p) H'
theorem mk_form {K : PySem.W.Frag} {A : Ad} {H : Hp} {R : Addr → Hp → Prop} {E : XK} {a b : Int} (h : ∀ p H', Same H H' → FormAt A H' p a b → R p H') : ∀ x dx, H x = none → H dx = none → dx ≠ x →
    sp_Form___init__ K A (.ref x :: [.int a, .int b]) (upd (upd H dx (.own x)) x (.ins A.c_Form dx [])) (fun v H2 => v = .non ∧ R x H2) E := by
  intro x dx n1 n2 n3
  refine ⟨x, dx, a, b, rfl, upd_same, rfl, h x _ ?_ ⟨dx, upd_same⟩⟩
  rw [upd_upd]
  exact fun c o e => by rw [upd_ne (ne_of_none e n1), upd_ne (ne_of_none e n2)]; exact e
theorem sc_Form___init__ : FnScope ["self", "alpha", "beta"] ["self", "alpha", "beta"] (defScope s_Form___init__) := ⟨rfl, rfl, rfl, by decide +kernel, rfl, by decide +kernel, by decide +kernel⟩
theorem ok_Form___init__ (T : Txt K mg A) : FnOk P w K mg base (L2.CX P w) 1 A.f_Form___init__ A.d_Form___init__ ["self", "alpha", "beta"] (sp_Form___init__ K A) := by
  refine T.F_Form___init__.okX sc_Form___init__ ?len (fun cdv Ar outer s H vs Q E hr h => ?_)
  case len => intro vs H Q E h; obtain ⟨_, _, _, _, rfl, _⟩ := h; rfl
  · refine ⟨_, ((pss_cons (ps_fld (pv 0) (pv 1) rfl)
      (pss_one (ps_fld (pv 0) (pv 2) rfl)))), ?_⟩
    try dsimp only [cxOf]
    obtain ⟨p, dx, a, b, rfl, h1, k⟩ := h
    refine c_start (σ' := [some _, some _, some _]) (by rfl) ?_
    walk_at "lb_go"
    walk_at "lb_pf"
    exact k
def sp__law_number (K : PySem.W.Frag) (A : Ad) : Sp := fun vs H Q E => ∃ (a : Addr) (ns : List Int) (k : Int), vs = [.ref a, .int k] ∧ SqL K H a (ns.map V.int) ∧ 0 ≤ k ∧
  ∀ n : Int, -(10 ^ 40) ≤ n → n ≤ 10 ^ 40 → Q (.int n) H
theorem at_nat {ns : List Int} {k : Int} (h0 : 0 ≤ k) (h : k < ((ns.map V.int).length : Int)) : ∃ z, atI (ns.map V.int) k = some (.int z) := by
  obtain ⟨j, rfl⟩ : ∃ j : Nat, k = j := ⟨k.toNat, by omega⟩
  have hj : j < (ns.map V.int).length := by omega
  refine ⟨ns[j]'(by simpa using hj), ?_⟩
  exact atI_nat (by simp)
theorem sc__law_number : FnScope ["_law_script", "_law_k", "_law_cell"] ["_law_script", "_law_k"] (defScope s__law_number) := ⟨rfl, rfl, rfl, by decide +kernel, rfl, by decide +kernel, by decide +kernel⟩
theorem ok__law_number (T : Txt K mg A) : FnOk P w K mg base (L2.CX P w) 1 A.f__law_number A.d__law_number ["_law_script", "_law_k"] (sp__law_number K A) := by
  refine T.F__law_number.okX sc__law_number ?len (fun cdv Ar outer s H vs Q E hr h => ?_)
  case len => intro vs H Q E h; obtain ⟨_, _, _, rfl, _⟩ := h; rfl
  · refine ⟨_, ((pss_cons (ps_set (i := 2) sc__law_number.nd rfl (.inl rfl) pe_int)
      (pss_cons (ps_if (pt_cmpR op_ltI (pv 1) (pe_callB call_lenA (by rfl) T.z_len (by decide +kernel) (pa_cons (pv 0) pa_nil)) (nomark _)) (pss_one (ps_set (i := 2) sc__law_number.nd rfl (.inl rfl) (pe_ix ix_seq (pv 0) (pv 1) (fun _ _ => rfl)))) pss_nil)
      (pss_one (ps_ret (pe_op op_subI (pe_op op_modI (pe_callTy call_intA (by rfl) T.z_int (by decide +kernel) (pa_cons (pv 2) pa_nil)) (pe_op op_addA (pe_op op_mulA pe_int (pe_op op_powI pe_int pe_int)) pe_int)) (pe_op op_powI pe_int pe_int))))))), ?_⟩
    try dsimp only [cxOf]
    obtain ⟨a, ns, i, rfl, hS, h0, k⟩ := h
    refine c_start (σ' := [some _, some _, none]) (by rfl) ?_
    walk_at "lb_go"
    walk_at "lb_if"
    refine c_ifD (fun e1 => ?_) (fun e1 => ?_)
    · obtain ⟨z, hz⟩ := at_nat h0 e1
      walk_at "lb_go"
      refine k _ ?_ ?_ <;> omega
    · walk_at "lb_go"
      refine k _ ?_ ?_ <;> omega
def sp__law_is_integer (K : PySem.W.Frag) (A : Ad) : Sp := fun vs H Q E => ∃ (n : Int), vs = [.int n] ∧ Q (.bl true) H
theorem sc__law_is_integer : FnScope ["_law_value"] ["_law_value"] (defScope s__law_is_integer) := ⟨rfl, rfl, rfl, by decide +kernel, rfl, by decide +kernel, by decide +kernel⟩
theorem ok__law_is_integer (T : Txt K mg A) : FnOk P w K mg base (L2.CX P w) 1 A.f__law_is_integer A.d__law_is_integer ["_law_value"] (sp__law_is_integer K A) := by
  refine T.F__law_is_integer.okX sc__law_is_integer ?len (fun cdv Ar outer s H vs Q E hr h => ?_)
  case len => intro vs H Q E h; obtain ⟨_, rfl, _⟩ := h; rfl
  · refine ⟨_, ((pss_one (ps_ret (pe_and (pe_callB call_isi (by rfl) T.z_isinstance (by decide +kernel) (pa_cons (pv 0) (pa_cons (pe_bltn (v := .ty "int") (by rfl) T.z_int (by decide +kernel) rfl) pa_nil))) (pe_one (pe_not (pe_callB call_isi (by rfl) T.z_isinstance (by decide +kernel) (pa_cons (pv 0) (pa_cons (pe_bltn (v := .ty "bool") (by rfl) T.z_bool (by decide +kernel) rfl) pa_nil))))))))), ?_⟩
    try dsimp only [cxOf]
    obtain ⟨n, rfl, k⟩ := h
    refine c_start (σ' := [some _]) (by rfl) ?_
    walk_at "lb_go"
    exact k
def spLaw (K : PySem.W.Frag) : Sp := fun vs H Q _ => ∃ (a : Addr) (ns : List Int), vs = [.ref a] ∧ SqL K H a (ns.map V.int) ∧ ns.length ≤ 63 ∧ ∀ H', Q (.bl true) H'
def sp_law (K : PySem.W.Frag) (A : Ad) : Sp := fun vs H Q E => ∃ (a : Addr) (ns : List Int), vs = [.ref a] ∧ SqL K H a (ns.map V.int) ∧ ns.length ≤ 63 ∧ ∀ H', Q (.bl true) H'
theorem prod_le {x y : Int} {m n : Nat} (h1 : x.natAbs ≤ m) (h2 : y.natAbs ≤ n) : (x * y).natAbs ≤ m * n := by
  rw [Int.natAbs_mul]
  exact Nat.mul_le_mul h1 h2
theorem mulw {x y : Int} (h1 : x.natAbs ≤ 10 ^ 100) (h2 : y.natAbs ≤ 10 ^ 100) : CMulW x y :=
  wide_mul (a := 400) (b := 400) (Nat.lt_of_le_of_lt h1 (by decide)) (Nat.lt_of_le_of_lt h2 (by decide)) (by decide) (by decide) (by decide)
def sg (n : Int) : Int := (if decide (0 < n) = true then 1 else 0) - (if decide (n < 0) = true then 1 else 0)
theorem sg_pos {n : Int} (h : 0 < n) : sg n = 1 := by
  unfold sg
  rw [if_pos (decide_eq_true h), if_neg (by simp; omega)]; rfl
theorem sg_neg {n : Int} (h : n < 0) : sg n = -1 := by
  unfold sg
  rw [if_neg (by simp; omega), if_pos (decide_eq_true h)]; rfl
theorem sg_zero {n : Int} (h : n = 0) : sg n = 0 := by
  subst h; rfl
theorem turn_math {al be : Int} (ha : 0 < al) (hb : be < 0) : 1 ≤ (al - be - 1) / -be ∧ (al - be - 1) / -be ≤ al ∧ al + be * ((al - be - 1) / -be) ≤ 0 ∧ 0 < al + be * ((al - be - 1) / -be - 1) := by
  obtain ⟨c, rfl⟩ : ∃ c, be = -c := ⟨-be, by omega⟩
  have hc : 0 < c := by omega
  rw [show al - -c - 1 = al + c - 1 by omega, show - -c = c by omega]
  have h1 := Int.mul_ediv_add_emod (al + c - 1) c
  have h2 := Int.emod_nonneg (al + c - 1) (show c ≠ 0 by omega)
  have h3 := Int.emod_lt_of_pos (al + c - 1) hc
  generalize (al + c - 1) / c = t at h1 ⊢
  generalize (al + c - 1) % c = r at h1 h2 h3
  have e1 : -c * t = -(c * t) := Int.neg_mul ..
  have e2 : -c * (t - 1) = -(c * t) + c := by rw [Int.mul_sub, e1]; omega
  have t1 : 1 ≤ t := by
    by_cases z : 1 ≤ t
    · exact z
    · exfalso
      have : c * t ≤ c * 0 := Int.mul_le_mul_of_nonneg_left (by omega) (by omega)
      omega
  have t2 : t ≤ al := by
    by_cases z : t ≤ al
    · exact z
    · exfalso
      have q : (c - 1) * 1 ≤ (c - 1) * al := Int.mul_le_mul_of_nonneg_left (by omega) (by omega)
      have q2 : c * (al + 1) ≤ c * t := Int.mul_le_mul_of_nonneg_left (by omega) (by omega)
      have q3 : (c - 1) * al = c * al - al := by rw [Int.sub_mul]; omega
      have q4 : c * (al + 1) = c * al + c := by rw [Int.mul_add]; omega
      omega
  refine ⟨t1, t2, ?_, ?_⟩ <;> omega
def Turned (al be t : Int) : Prop := 1 ≤ t ∧ t ≤ 10 ^ 50 ∧ sg (al + be * t) ≠ sg al ∧ sg (al + be * (t - 1)) = sg al
def Never (al be : Int) : Prop := (al = 0 ∧ be = 0) ∨ (0 < al ∧ 0 ≤ be) ∨ (al < 0 ∧ be ≤ 0)
theorem turn_pos {al be : Int} (ha : 0 < al) (hb : be < 0) (hl : al ≤ 10 ^ 50) : Turned al be ((al - be - 1) / -be) := by
  obtain ⟨h1, h2, h3, h4⟩ := turn_math ha hb
  refine ⟨h1, by omega, ?_, ?_⟩
  · rw [sg_pos ha]
    intro z
    by_cases q : al + be * ((al - be - 1) / -be) = 0
    · rw [sg_zero q] at z; cases z
    · rw [sg_neg (by omega)] at z; cases z
  · rw [sg_pos ha, sg_pos h4]
theorem turn_neg {al be : Int} (ha : al < 0) (hb : 0 < be) (hl : -(10 ^ 50) ≤ al) : Turned al be ((-al - -be - 1) / - -be) := by
  obtain ⟨h1, h2, h3, h4⟩ := turn_math (al := -al) (be := -be) (by omega) (by omega)
  generalize (-al - -be - 1) / - -be = t at *
  have e1 : -be * t = -(be * t) := Int.neg_mul ..
  have e2 : -be * (t - 1) = -(be * (t - 1)) := Int.neg_mul ..
  refine ⟨h1, by omega, ?_, ?_⟩
  · rw [sg_neg ha]
    intro z
    by_cases q : al + be * t = 0
    · rw [sg_zero q] at z; cases z
    · rw [sg_pos (by omega)] at z; cases z
  · rw [sg_neg ha, sg_neg (by omega)]
def sp_first_turn (K : PySem.W.Frag) (A : Ad) : Sp := fun vs H Q E => ∃ (p q : Addr) (a b c d : Int), vs = [.ref p, .ref q] ∧ FormAt A H p a b ∧ FormAt A H q c d ∧ (a - c).natAbs ≤ 10 ^ 50 ∧ (b - d).natAbs ≤ 10 ^ 50 ∧
  (Never (a - c) (b - d) → Q .non H) ∧ (∀ t, Turned (a - c) (b - d) t → Q (.int t) H)
theorem turned_zero {be : Int} (h : ¬ be = 0) (hb : be.natAbs ≤ 10 ^ 50) : Turned 0 be 1 := by
  refine ⟨by omega, by omega, ?_, by rw [show (0 : Int) + be * (1 - 1) = 0 by omega]⟩
  rw [sg_zero rfl, Int.mul_one]
  by_cases z : 0 < be
  · rw [sg_pos (by omega)]; decide
  · rw [sg_neg (by omega)]; decide
theorem sc_first_turn : FnScope ["f", "g", "alpha", "beta"] ["f", "g"] (defScope s_first_turn) := ⟨rfl, rfl, rfl, by decide +kernel, rfl, by decide +kernel, by decide +kernel⟩
theorem ok_first_turn (T : Txt K mg A) : FnOk P w K mg base (L2.CX P w) 1 A.f_first_turn A.d_first_turn ["f", "g"] (sp_first_turn K A) := by
  refine T.F_first_turn.okX sc_first_turn ?len (fun cdv Ar outer s H vs Q E hr h => ?_)
  case len => intro vs H Q E h; obtain ⟨_, _, _, _, _, _, rfl, _⟩ := h; rfl
  · refine ⟨_, ((pss_cons (ps_set (i := 2) sc_first_turn.nd rfl (.inl rfl) (pe_op op_subI (pe_fld (pv 0) rfl) (pe_fld (pv 1) rfl)))
      (pss_cons (ps_set (i := 3) sc_first_turn.nd rfl (.inl rfl) (pe_op op_subI (pe_fld (pv 0) rfl) (pe_fld (pv 1) rfl)))
      (pss_cons (ps_if (pt_cmpR (op_eqA (hr.units)) (pv 2) pe_int (nomark _)) (pss_cons (ps_if (pt_cmpR (op_eqA (hr.units)) (pv 3) pe_int (nomark _)) (pss_one (ps_ret pe_non)) pss_nil)
      (pss_one (ps_ret pe_int))) pss_nil)
      (pss_cons (ps_if (pt_cmpR op_ltI (pv 2) pe_int (nomark _)) (pss_cons (ps_set (i := 2) sc_first_turn.nd rfl (.inl rfl) (pe_un un_negI (pv 2)))
      (pss_one (ps_set (i := 3) sc_first_turn.nd rfl (.inl rfl) (pe_un un_negI (pv 3))))) pss_nil)
      (pss_cons (ps_if (pt_cmpR op_geI (pv 3) pe_int (nomark _)) (pss_one (ps_ret pe_non)) pss_nil)
      (pss_one (ps_ret (pe_op op_div (pe_op op_subI (pe_op op_subI (pv 2) (pv 3)) pe_int) (pe_un un_negI (pv 3))))))))))), ?_⟩
    try dsimp only [cxOf]
    obtain ⟨p, q, a, b, c, d, rfl, ⟨dx, h1⟩, ⟨dy, h2⟩, ba, bb, kN, kT⟩ := h
    refine c_start (σ' := [some _, some _, none, none]) (by rfl) ?_
    generalize ha : a - c = al at *
    generalize hb : b - d = be at *
    walk_at "lb_go"
    rw [ha, hb]
    walk_at "lb_if"
    refine c_ifD (fun e1 => ?_) (fun e1 => ?_)
    · subst e1
      walk_at "lb_if"
      refine c_ifD (fun e2 => ?_) (fun e2 => ?_)
      · walk_at "lb_go"
        exact kN (.inl ⟨rfl, e2⟩)
      · walk_at "lb_go"
        exact kT 1 (turned_zero e2 bb)
    · walk_at "lb_go"
      walk_at "lb_if"
      refine c_ifD (fun e2 => ?_) (fun e2 => ?_)
      · walk_at "lb_go"
        walk_at "lb_if"
        refine c_ifD (fun e3 => ?_) (fun e3 => ?_)
        · walk_at "lb_go"
          exact kN (.inr (.inr ⟨e2, by omega⟩))
        · walk_at "lb_go"
          exact kT _ (turn_neg e2 (by omega) (by omega))
      · walk_at "lb_go"
        walk_at "lb_if"
        refine c_ifD (fun e3 => ?_) (fun e3 => ?_)
        · walk_at "lb_go"
          exact kN (.inr (.inl ⟨by omega, e3⟩))
        · walk_at "lb_go"
          exact kT _ (turn_pos (by omega) (by omega) (by omega))
def sp__law_sign (K : PySem.W.Frag) (A : Ad) : Sp := fun vs H Q E => ∃ (n : Int), vs = [.int n] ∧ Q (.int (sg n)) H
theorem sc__law_sign : FnScope ["_law_number_here"] ["_law_number_here"] (defScope s__law_sign) := ⟨rfl, rfl, rfl, by decide +kernel, rfl, by decide +kernel, by decide +kernel⟩
theorem ok__law_sign (T : Txt K mg A) : FnOk P w K mg base (L2.CX P w) 1 A.f__law_sign A.d__law_sign ["_law_number_here"] (sp__law_sign K A) := by
  refine T.F__law_sign.okX sc__law_sign ?len (fun cdv Ar outer s H vs Q E hr h => ?_)
  case len => intro vs H Q E h; obtain ⟨_, rfl, _⟩ := h; rfl
  · refine ⟨_, ((pss_one (ps_ret (pe_op op_subI (pe_callTy call_intA (by rfl) T.z_int (by decide +kernel) (pa_cons (pe_cmpR op_gtI (pv 0) pe_int (nomark _)) pa_nil)) (pe_callTy call_intA (by rfl) T.z_int (by decide +kernel) (pa_cons (pe_cmpR op_ltI (pv 0) pe_int (nomark _)) pa_nil)))))), ?_⟩
    try dsimp only [cxOf]
    obtain ⟨n, rfl, k⟩ := h
    refine c_start (σ' := [some _]) (by rfl) ?_
    walk_at "lb_go"
    exact k
theorem sc_law : FnScope ["_law_script", "_law_a", "_law_b", "_law_alpha", "_law_beta", "_law_f", "_law_g", "_law_told", "_law_start"] ["_law_script"] (defScope s_law) := ⟨rfl, rfl, rfl, by decide +kernel, rfl, by decide +kernel, by decide +kernel⟩
theorem ok_law (T : Txt K mg A) : FnOk P w K mg base (L2.CX P w) 3 A.f_law A.d_law ["_law_script"] (sp_law K A) := by
  have G_Form___init__ : FnR P w K mg base (L2.CX P w) 1 A.f_Form___init__ (sp_Form___init__ K A) := FnOk.r0 (ok_Form___init__ T) T.b_Form___init__
  have G__law_is_integer : FnR P w K mg base (L2.CX P w) 1 A.f__law_is_integer (sp__law_is_integer K A) := FnOk.r0 (ok__law_is_integer T) T.b__law_is_integer
  have G__law_number : FnR P w K mg base (L2.CX P w) 1 A.f__law_number (sp__law_number K A) := FnOk.r0 (ok__law_number T) T.b__law_number
  have G__law_sign : FnR P w K mg base (L2.CX P w) 1 A.f__law_sign (sp__law_sign K A) := FnOk.r0 (ok__law_sign T) T.b__law_sign
  have G_first_turn : FnR P w K mg base (L2.CX P w) 1 A.f_first_turn (sp_first_turn K A) := FnOk.r0 (ok_first_turn T) T.b_first_turn
  refine T.F_law.okX sc_law ?len (fun cdv Ar outer s H vs Q E hr h => ?_)
  case len => intro vs H Q E h; obtain ⟨_, _, rfl, _⟩ := h; rfl
  · refine ⟨_, ((pss_cons (ps_set (i := 1) sc_law.nd rfl (.inl rfl) (pe_callX G__law_number (hr.mono (by decide)) rfl T.g__law_number T.kp__law_number (fun σ => passAt (takes_of rfl rfl rfl rfl) σ) (pa_cons (pv 0) (pa_cons pe_int pa_nil))))
      (pss_cons (ps_set (i := 2) sc_law.nd rfl (.inl rfl) (pe_callX G__law_number (hr.mono (by decide)) rfl T.g__law_number T.kp__law_number (fun σ => passAt (takes_of rfl rfl rfl rfl) σ) (pa_cons (pv 0) (pa_cons pe_int pa_nil))))
      (pss_cons (ps_set (i := 3) sc_law.nd rfl (.inl rfl) (pe_callX G__law_number (hr.mono (by decide)) rfl T.g__law_number T.kp__law_number (fun σ => passAt (takes_of rfl rfl rfl rfl) σ) (pa_cons (pv 0) (pa_cons pe_int pa_nil))))
      (pss_cons (ps_set (i := 4) sc_law.nd rfl (.inl rfl) (pe_callX G__law_number (hr.mono (by decide)) rfl T.g__law_number T.kp__law_number (fun σ => passAt (takes_of rfl rfl rfl rfl) σ) (pa_cons (pv 0) (pa_cons pe_int pa_nil))))
      (pss_cons (ps_if (pt_cmpR op_gtI (pe_op op_modI (pe_callTy call_intA (by rfl) T.z_int (by decide +kernel) (pa_cons (pe_op op_addA (pv 1) (pv 2)) pa_nil)) pe_int) pe_int (nomark _)) (pss_cons (ps_set (i := 3) sc_law.nd rfl (.inl rfl) (pe_op op_subI (pe_op op_modI (pe_callTy call_intA (by rfl) T.z_int (by decide +kernel) (pa_cons (pv 3) pa_nil)) pe_int) pe_int))
      (pss_one (ps_set (i := 4) sc_law.nd rfl (.inl rfl) (pe_op op_subI (pe_op op_modI (pe_callTy call_intA (by rfl) T.z_int (by decide +kernel) (pa_cons (pv 4) pa_nil)) pe_int) pe_int)))) pss_nil)
      (pss_cons (ps_set (i := 5) sc_law.nd rfl (.inl rfl) (pe_makeX T.mk_Form G_Form___init__ (hr.mono (by decide)) rfl T.g_Form (fun σ => passAt (takes_of rfl rfl rfl rfl) σ) (pa_cons (pe_op op_addA (pv 1) (pv 3)) (pa_cons (pe_op op_addA (pv 2) (pv 4)) pa_nil))))
      (pss_cons (ps_set (i := 6) sc_law.nd rfl (.inl rfl) (pe_makeX T.mk_Form G_Form___init__ (hr.mono (by decide)) rfl T.g_Form (fun σ => passAt (takes_of rfl rfl rfl rfl) σ) (pa_cons (pv 1) (pa_cons (pv 2) pa_nil))))
      (pss_cons (ps_set (i := 7) sc_law.nd rfl (.inl rfl) (pe_callX G_first_turn (hr.mono (by decide)) rfl T.g_first_turn T.kp_first_turn (fun σ => passAt (takes_of rfl rfl rfl rfl) σ) (pa_cons (pv 5) (pa_cons (pv 6) pa_nil))))
      (pss_cons (ps_set (i := 8) sc_law.nd rfl (.inl rfl) (pe_callX G__law_sign (hr.mono (by decide)) rfl T.g__law_sign T.kp__law_sign (fun σ => passAt (takes_of rfl rfl rfl rfl) σ) (pa_cons (pv 3) pa_nil)))
      (pss_cons (ps_if (pt_cmpR op_is0 (pv 7) pe_non (nomark _)) (pss_one (ps_ret (pe_or (pe_and (pe_cmpR (op_eqA (hr.units)) (pv 8) pe_int (nomark _)) (pe_one (pe_cmpR (op_eqA (hr.units)) (pv 4) pe_int (nomark _)))) (pe_or (pe_and (pe_cmpR (op_eqA (hr.units)) (pv 8) pe_int (nomark _)) (pe_one (pe_cmpR op_geI (pv 4) pe_int (nomark _)))) (pe_one (pe_and (pe_cmpR (op_eqA (hr.units)) (pv 8) (pe_un un_negI pe_int) (nomark _)) (pe_one (pe_cmpR op_leI (pv 4) pe_int (nomark _))))))))) pss_nil)
      (pss_cons (ps_if (PW.pt (pw_or (pt_not (pt_val (pe_callX G__law_is_integer (hr.mono (by decide)) rfl T.g__law_is_integer T.kp__law_is_integer (fun σ => passAt (takes_of rfl rfl rfl rfl) σ) (pa_cons (pv 7) pa_nil)) (by intro _; rfl))) (pw_or1 (pt_cmpR op_ltI (pv 7) pe_int (nomark _))))) (pss_one (ps_ret pe_bl)) pss_nil)
      (pss_cons (ps_if (PW.pt (pw_or (pt_cmpR (op_neA (hr.units)) (pe_fld (pv 5) rfl) (pe_op op_addA (pv 1) (pv 3)) (nomark _)) (pw_or1 (pt_cmpR (op_neA (hr.units)) (pe_fld (pv 6) rfl) (pv 2) (nomark _))))) (pss_one (ps_ret pe_bl)) pss_nil)
      (pss_one (ps_ret (pe_and (pe_cmpR (op_neA (hr.units)) (pe_callX G__law_sign (hr.mono (by decide)) rfl T.g__law_sign T.kp__law_sign (fun σ => passAt (takes_of rfl rfl rfl rfl) σ) (pa_cons (pe_op op_addA (pv 3) (pe_op op_mulA (pv 4) (pv 7))) pa_nil)) (pv 8) (nomark _)) (pe_one (pe_cmpR (op_eqA (hr.units)) (pe_callX G__law_sign (hr.mono (by decide)) rfl T.g__law_sign T.kp__law_sign (fun σ => passAt (takes_of rfl rfl rfl rfl) σ) (pa_cons (pe_op op_addA (pv 3) (pe_op op_mulA (pv 4) (pe_op op_subI (pv 7) pe_int))) pa_nil)) (pv 8) (nomark _))))))))))))))))))), ?_⟩
    try dsimp only [cxOf]
    obtain ⟨a, ns, rfl, hS, hl, k⟩ := h
    refine c_start (σ' := [some _, none, none, none, none, none, none, none, none]) (by rfl) ?_
    walk_at "lb_go"
    refine ⟨a, ns, _, rfl, hS, by decide, fun va l1 u1 => ?_⟩
    walk_at "lb_go"
    refine ⟨a, ns, _, rfl, hS, by decide, fun vb l2 u2 => ?_⟩
    walk_at "lb_go"
    refine ⟨a, ns, _, rfl, hS, by decide, fun vc l3 u3 => ?_⟩
    walk_at "lb_go"
    refine ⟨a, ns, _, rfl, hS, by decide, fun vd l4 u4 => ?_⟩
    walk_at "lb_go"
    (with_reducible refine c_cut (fun σ H' => H' = H ∧ ∃ c d : Int, c.natAbs ≤ 10 ^ 41 ∧ d.natAbs ≤ 10 ^ 41 ∧ σ = [some (.ref a), some (.int va), some (.int vb), some (.int c), some (.int d), none, none, none, none]) (fun σ H' => ?_) fun N hN => ?_)
    rotate_left
    · walk_at "lb_if"
      refine c_ifD (fun e1 => ?_) (fun e1 => ?_)
      · walk_at "lb_go"
        exact hN _ _ ⟨rfl, vc % 201 - 100, vd % 13 - 6, by omega, by omega, rfl⟩
      · walk_at "lb_go"
        exact hN _ _ ⟨rfl, vc, vd, by omega, by omega, rfl⟩
    rintro ⟨eH, al, be, b1, b2, rfl⟩
    subst eH
    walk_at "lb_go"
    refine mk_form (A := A) fun p1 H1 s1 f1 => ?_
    walk_at "lb_go"
    refine mk_form (A := A) fun p2 H2 s2 g2 => ?_
    have f2 := f1.same s2
    obtain ⟨dx1, e1⟩ := id f2
    obtain ⟨dx2, e2⟩ := id g2
    walk_at "lb_go"
    have z1 : va + al - va = al := by omega
    have z2 : vb + be - vb = be := by omega
    refine ⟨p1, p2, _, _, _, _, rfl, f2, g2, by omega, by omega, ?_, ?_⟩
    · rw [z1, z2]
      intro hn
      walk_at "lb_go"
      refine ⟨_, rfl, ?_⟩
      walk_at "lb_go"
      walk_at "lb_if"
      refine c_ifT rfl ?_
      walk_at "lb_go"
      rcases hn with ⟨q1, q2⟩ | ⟨q1, q2⟩ | ⟨q1, q2⟩
      · rw [sg_zero q1]
        refine c_ifT rfl ?_
        walk_at "lb_go"
        rw [decide_eq_true q2]
        walk_at "lb_go"
        exact k _
      · rw [sg_pos q1]
        refine c_ifF (by decide) ?_
        walk_at "lb_go"
        refine c_ifT rfl ?_
        walk_at "lb_go"
        rw [decide_eq_true q2]
        walk_at "lb_go"
        exact k _
      · rw [sg_neg q1]
        refine c_ifF (by decide) ?_
        walk_at "lb_go"
        refine c_ifF (by decide) ?_
        walk_at "lb_go"
        refine c_ifT rfl ?_
        walk_at "lb_go"
        rw [decide_eq_true q2]
        exact k _
    · rw [z1, z2]
      rintro t ⟨t1, t2, t3, t4⟩
      walk_at "lb_go"
      refine ⟨_, rfl, ?_⟩
      walk_at "lb_go"
      walk_at "lb_if"
      refine c_ifF (by simp) ?_
      walk_at "lb_go"
      walk_at "lb_if"
      refine ⟨_, rfl, ?_⟩
      walk_at "lb_go"
      refine c_ifF (by omega) ?_
      walk_at "lb_go"
      walk_at "lb_if"
      refine c_ifFN rfl ?_
      walk_at "lb_go"
      refine c_ifFN rfl ?_
      have m1 : CMulW be t := mulw (by omega) (by omega)
      have m2 : CMulW be (t - 1) := mulw (by omega) (by omega)
      walk_at "lb_go"
      refine ⟨_, rfl, ?_⟩
      walk_at "lb_go"
      refine c_ifTN t3 ?_
      walk_at "lb_go"
      refine ⟨_, rfl, ?_⟩
      walk_at "lb_go"
      rw [decide_eq_true t4]
      exact k _
end
/-! what the top has written -/
theorem all_mk {l : PySem.W.OpenLaw} {w : World} {K : PySem.W.Frag} {h : Heap} {mg : Str → Option Value} {fa c_Form f_Form___init__ f_first_turn f__law_number f__law_is_integer f__law_sign f_law : Addr} (X : K.In h) (G : h.Ns mainGlobals mg) (hfa : mg "law" = some (.ref fa))
    {od_Form___init__ an_Form___init__ od_first_turn an_first_turn od__law_number an__law_number od__law_is_integer an__law_is_integer od__law_sign an__law_sign od_law an_law : Option Addr} {sl_Form___init__ sl_first_turn sl__law_number sl__law_is_integer sl__law_sign sl_law : Array (Option Value)} {oc_Form___init__ kV_Form___init__ dc_Form___init__ pm_Form___init__ cd_Form___init__ ct_Form___init__ oc_first_turn kV_first_turn dc_first_turn pm_first_turn cd_first_turn ct_first_turn oc__law_number kV__law_number dc__law_number pm__law_number cd__law_number ct__law_number oc__law_is_integer kV__law_is_integer dc__law_is_integer pm__law_is_integer cd__law_is_integer ct__law_is_integer oc__law_sign kV__law_sign dc__law_sign pm__law_sign cd__law_sign ct__law_sign oc_law kV_law dc_law pm_law cd_law ct_law : Value}
    (a_Form : PySem.W.nsIn K mainGlobals "Form" = some (some (.ref c_Form)))
    (pg_Form : PySem.W.plainGet K c_Form Str.empty = true)
    (hd_Form : PySem.W.hasDictIn K c_Form = true)
    (po_Form : PySem.W.plainOver K c_Form = true)
    (sa_Form : PySem.W.findIn K (.ref c_Form) "__setattr__" = some (some (.builtin "object.__setattr__")))
    (mk_Form : PySem.W.makesIn K c_Form = true)
    (kc_Form : PySem.W.keepIn K (.ref c_Form) = true)
    (na_Form_alpha : PySem.W.findIn K (.ref c_Form) "alpha" = some none)
    (na_Form_beta : PySem.W.findIn K (.ref c_Form) "beta" = some none)
    (i1_Form : PySem.W.findIn K (.ref c_Form) "__class__" = some (some (.builtin "object.__class__")))
    (i2_Form : PySem.W.specialIn K (.builtin "object.__class__") "__get__" = some (some (.builtin "getset_descriptor.__get__")))
    (i3_Form : PySem.W.takesIn K (.builtin "object.__class__") = some true)
    (i4_Form : PySem.W.mroIn K c_Form (.type "object") = some true)
    (i5_Form : PySem.W.kitOne K (.ref c_Form) (.ref c_Form) = some true)
    (a_Form___init__ : PySem.W.findIn K (.ref c_Form) "__init__" = some (some (.ref f_Form___init__)))
    (i_Form___init__ : PySem.W.isFn K (.ref f_Form___init__) = true)
    (l_Form___init__ : K.lookup f_Form___init__ = some ⟨oc_Form___init__, od_Form___init__, .func (PySem.W.fnOf "__init__" "Form.__init__" (defArgs s_Form___init__) (defBody s_Form___init__) (defScope s_Form___init__) .none kV_Form___init__ dc_Form___init__ pm_Form___init__ an_Form___init__ cd_Form___init__ ct_Form___init__), sl_Form___init__⟩)
    (c_Form___init__ : PySem.W.codeIn K cd_Form___init__ "Form.__init__" = true)
    (k_Form___init__ : PySem.W.keepIn K (.ref f_Form___init__) = true)
    (a_first_turn : PySem.W.nsIn K mainGlobals "first_turn" = some (some (.ref f_first_turn)))
    (l_first_turn : K.lookup f_first_turn = some ⟨oc_first_turn, od_first_turn, .func (PySem.W.fnOf "first_turn" "first_turn" (defArgs s_first_turn) (defBody s_first_turn) (defScope s_first_turn) .none kV_first_turn dc_first_turn pm_first_turn an_first_turn cd_first_turn ct_first_turn), sl_first_turn⟩)
    (c_first_turn : PySem.W.codeIn K cd_first_turn "first_turn" = true)
    (k_first_turn : PySem.W.keepIn K (.ref f_first_turn) = true)
    (a__law_number : PySem.W.nsIn K mainGlobals "_law_number" = some (some (.ref f__law_number)))
    (l__law_number : K.lookup f__law_number = some ⟨oc__law_number, od__law_number, .func (PySem.W.fnOf "_law_number" "_law_number" (defArgs s__law_number) (defBody s__law_number) (defScope s__law_number) .none kV__law_number dc__law_number pm__law_number an__law_number cd__law_number ct__law_number), sl__law_number⟩)
    (c__law_number : PySem.W.codeIn K cd__law_number "_law_number" = true)
    (k__law_number : PySem.W.keepIn K (.ref f__law_number) = true)
    (a__law_is_integer : PySem.W.nsIn K mainGlobals "_law_is_integer" = some (some (.ref f__law_is_integer)))
    (l__law_is_integer : K.lookup f__law_is_integer = some ⟨oc__law_is_integer, od__law_is_integer, .func (PySem.W.fnOf "_law_is_integer" "_law_is_integer" (defArgs s__law_is_integer) (defBody s__law_is_integer) (defScope s__law_is_integer) .none kV__law_is_integer dc__law_is_integer pm__law_is_integer an__law_is_integer cd__law_is_integer ct__law_is_integer), sl__law_is_integer⟩)
    (c__law_is_integer : PySem.W.codeIn K cd__law_is_integer "_law_is_integer" = true)
    (k__law_is_integer : PySem.W.keepIn K (.ref f__law_is_integer) = true)
    (a__law_sign : PySem.W.nsIn K mainGlobals "_law_sign" = some (some (.ref f__law_sign)))
    (l__law_sign : K.lookup f__law_sign = some ⟨oc__law_sign, od__law_sign, .func (PySem.W.fnOf "_law_sign" "_law_sign" (defArgs s__law_sign) (defBody s__law_sign) (defScope s__law_sign) .none kV__law_sign dc__law_sign pm__law_sign an__law_sign cd__law_sign ct__law_sign), sl__law_sign⟩)
    (c__law_sign : PySem.W.codeIn K cd__law_sign "_law_sign" = true)
    (k__law_sign : PySem.W.keepIn K (.ref f__law_sign) = true)
    (a_law : PySem.W.nsIn K mainGlobals "law" = some (some (.ref f_law)))
    (l_law : K.lookup f_law = some ⟨oc_law, od_law, .func (PySem.W.fnOf "law" "law" (defArgs s_law) (defBody s_law) (defScope s_law) .none kV_law dc_law pm_law an_law cd_law ct_law), sl_law⟩)
    (c_law : PySem.W.codeIn K cd_law "law" = true)
    (k_law : PySem.W.keepIn K (.ref f_law) = true)
    (z_bool : PySem.W.nsIn K mainGlobals "bool" = some none)
    (z_int : PySem.W.nsIn K mainGlobals "int" = some none)
    (z_isinstance : PySem.W.nsIn K mainGlobals "isinstance" = some none)
    (z_len : PySem.W.nsIn K mainGlobals "len" = some none)
    : ∃ fd : FuncData, (∀ (s : Shared) (v : Value), BindsTo s fd ⟨[v], []⟩ [("_law_script", v)]) ∧ ∀ base : Heap, K.In base → base.Ns mainGlobals mg → FnOk l.prog w K mg base (L2.CX l.prog w) 3 fa fd ["_law_script"] (spLaw K) := by
  have e := hfa.symm.trans (PySem.W.mg_of X G a_law)
  cases e
  have T : Txt K mg ⟨c_Form, f_Form___init__, PySem.W.fnOf "__init__" "Form.__init__" (defArgs s_Form___init__) (defBody s_Form___init__) (defScope s_Form___init__) .none kV_Form___init__ dc_Form___init__ pm_Form___init__ an_Form___init__ cd_Form___init__ ct_Form___init__, f_first_turn, PySem.W.fnOf "first_turn" "first_turn" (defArgs s_first_turn) (defBody s_first_turn) (defScope s_first_turn) .none kV_first_turn dc_first_turn pm_first_turn an_first_turn cd_first_turn ct_first_turn, f__law_number, PySem.W.fnOf "_law_number" "_law_number" (defArgs s__law_number) (defBody s__law_number) (defScope s__law_number) .none kV__law_number dc__law_number pm__law_number an__law_number cd__law_number ct__law_number, f__law_is_integer, PySem.W.fnOf "_law_is_integer" "_law_is_integer" (defArgs s__law_is_integer) (defBody s__law_is_integer) (defScope s__law_is_integer) .none kV__law_is_integer dc__law_is_integer pm__law_is_integer an__law_is_integer cd__law_is_integer ct__law_is_integer, f__law_sign, PySem.W.fnOf "_law_sign" "_law_sign" (defArgs s__law_sign) (defBody s__law_sign) (defScope s__law_sign) .none kV__law_sign dc__law_sign pm__law_sign an__law_sign cd__law_sign ct__law_sign, fa, PySem.W.fnOf "law" "law" (defArgs s_law) (defBody s_law) (defScope s_law) .none kV_law dc_law pm_law an_law cd_law ct_law⟩ := {
    F_Form___init__ := fun_mk (st := s_Form___init__) l_Form___init__ c_Form___init__ k_Form___init__,
    b_Form___init__ := (fun_mk (st := s_Form___init__) l_Form___init__ c_Form___init__ k_Form___init__).binds (ps := ["self", "alpha", "beta"]) fun _ _ _ _ _ _ us hl => match us, hl with | [_, _, _], _ => rfl,
    mt_Form___init__ := ⟨a_Form___init__, i_Form___init__, k_Form___init__⟩,
    F_first_turn := fun_mk (st := s_first_turn) l_first_turn c_first_turn k_first_turn,
    b_first_turn := (fun_mk (st := s_first_turn) l_first_turn c_first_turn k_first_turn).binds (ps := ["f", "g"]) fun _ _ _ _ _ _ us hl => match us, hl with | [_, _], _ => rfl,
    g_first_turn := PySem.W.mg_of X G a_first_turn,
    kp_first_turn := k_first_turn,
    F__law_number := fun_mk (st := s__law_number) l__law_number c__law_number k__law_number,
    b__law_number := (fun_mk (st := s__law_number) l__law_number c__law_number k__law_number).binds (ps := ["_law_script", "_law_k"]) fun _ _ _ _ _ _ us hl => match us, hl with | [_, _], _ => rfl,
    g__law_number := PySem.W.mg_of X G a__law_number,
    kp__law_number := k__law_number,
    F__law_is_integer := fun_mk (st := s__law_is_integer) l__law_is_integer c__law_is_integer k__law_is_integer,
    b__law_is_integer := (fun_mk (st := s__law_is_integer) l__law_is_integer c__law_is_integer k__law_is_integer).binds (ps := ["_law_value"]) fun _ _ _ _ _ _ us hl => match us, hl with | [_], _ => rfl,
    g__law_is_integer := PySem.W.mg_of X G a__law_is_integer,
    kp__law_is_integer := k__law_is_integer,
    F__law_sign := fun_mk (st := s__law_sign) l__law_sign c__law_sign k__law_sign,
    b__law_sign := (fun_mk (st := s__law_sign) l__law_sign c__law_sign k__law_sign).binds (ps := ["_law_number_here"]) fun _ _ _ _ _ _ us hl => match us, hl with | [_], _ => rfl,
    g__law_sign := PySem.W.mg_of X G a__law_sign,
    kp__law_sign := k__law_sign,
    F_law := fun_mk (st := s_law) l_law c_law k_law,
    b_law := (fun_mk (st := s_law) l_law c_law k_law).binds (ps := ["_law_script"]) fun _ _ _ _ _ _ us hl => match us, hl with | [_], _ => rfl,
    g_law := PySem.W.mg_of X G a_law,
    kp_law := k_law,
    g_Form := PySem.W.mg_of X G a_Form,
    cl_Form := ⟨pg_Form, hd_Form, po_Form, sa_Form⟩,
    mk_Form := ⟨mk_Form, a_Form___init__, i_Form___init__, kc_Form⟩,
    na_Form_alpha := na_Form_alpha,
    na_Form_beta := na_Form_beta,
    ic_Form := ⟨⟨pg_Form, hd_Form, po_Form, sa_Form⟩, i1_Form, i2_Form, i3_Form, i4_Form, i5_Form⟩,
    z_bool := PySem.W.mg_none_of X G z_bool,
    z_int := PySem.W.mg_none_of X G z_int,
    z_isinstance := PySem.W.mg_none_of X G z_isinstance,
    z_len := PySem.W.mg_none_of X G z_len }
  exact ⟨PySem.W.fnOf "law" "law" (defArgs s_law) (defBody s_law) (defScope s_law) .none kV_law dc_law pm_law an_law cd_law ct_law, fun s v => .of_eq rfl, fun base _ _ => (ok_law T).imp fun vs H Q E h => h⟩
theorem walk {l : PySem.W.OpenLaw} {q : Program} {loose : List Str} {XP : (Str → Option Value) → Heap → Prop} {YP : World → Heap → Prop} {d : DefRec} {K : Params → PySem.W.Frag} (hn : l.most = some 63) (hdf : d.params.defaults = [])
    (hY : ∀ (w : World) (h : Heap), YP w h → (K w.params).In h)
    (F : ∀ (w : World) (mg : Str → Option Value) (fa : Addr) (h : Heap), (K w.params).In h → h.Ns mainGlobals mg → mg d.name = some (.ref fa) →
      ∃ fd : FuncData, (∀ (s : Shared) (u : Value), BindsTo s fd ⟨[u], []⟩ [("_law_script", u)]) ∧ ∀ base : Heap, (K w.params).In base → base.Ns mainGlobals mg → FnOk l.prog w (K w.params) mg base (L2.CX l.prog w) 3 fa fd ["_law_script"] (spLaw (K w.params))) :
    PySem.W.WalkO q loose XP YP l.row.toRowW d [] (fun f vs => PySem.call f vs) :=
  L2.walk_of (n := 63) (k := 3) (x := "_law_script") (CX := fun w => L2.CX l.prog w) (sp := fun w => spLaw (K w.params)) hn (by decide) hdf ⟨rfl, by decide, by decide⟩ hY F (fun _ _ a ns hl _ hS => ⟨a, ns, rfl, hS, hl, fun _ => rfl⟩) fun _ _ _ _ _ h => by
    obtain ⟨_, _, _, _, _, _, _, _, _, _, _, _, z⟩ := h
    exact z.elim
end LbW
open PySem PySem.W PyProof.Rows
set_option maxRecDepth 100000 in
set_option maxHeartbeats 0 in
theorem PySem.Challenge.cw_lentbytes_k02_first_turn_holds : PySem.Challenge.rw_lentbytes_k02_first_turn.Holds := by
  w_on; o_law; k_head; (case hw => w_witness2)
  k_fill
  refine LbW.walk (l := PySem.Challenge.rw_lentbytes_k02_first_turn) rfl rfl (fun w h Y => PySem.W.kIn_of Y) ?F
  case F =>
    intro w mg fa h KX G hmg
    refine' LbW.all_mk KX G hmg ?a_Form ?pg_Form ?hd_Form ?po_Form ?sa_Form ?mk_Form ?kc_Form ?na_Form_alpha ?na_Form_beta ?i1_Form ?i2_Form ?i3_Form ?i4_Form ?i5_Form ?a_Form___init__ ?i_Form___init__ ?l_Form___init__ ?c_Form___init__ ?k_Form___init__ ?a_first_turn ?l_first_turn ?c_first_turn ?k_first_turn ?a__law_number ?l__law_number ?c__law_number ?k__law_number ?a__law_is_integer ?l__law_is_integer ?c__law_is_integer ?k__law_is_integer ?a__law_sign ?l__law_sign ?c__law_sign ?k__law_sign ?a_law ?l_law ?c_law ?k_law ?z_bool ?z_int ?z_isinstance ?z_len
    (case a_Form => first | k_is | rfl)
    (case pg_Form => first | k_is | rfl)
    (case hd_Form => first | k_is | rfl)
    (case po_Form => first | k_is | rfl)
    (case sa_Form => first | k_is | rfl)
    (case mk_Form => first | k_is | rfl)
    (case kc_Form => first | k_is | rfl)
    (case na_Form_alpha => first | k_is | rfl)
    (case na_Form_beta => first | k_is | rfl)
    (case i1_Form => first | k_is | rfl)
    (case i2_Form => first | k_is | rfl)
    (case i3_Form => first | k_is | rfl)
    (case i4_Form => first | k_is | rfl)
    (case i5_Form => first | k_is | rfl)
    (case a_Form___init__ => first | k_is | rfl)
    (case i_Form___init__ => first | k_is | rfl)
    (case l_Form___init__ => first | k_is | rfl)
    (case c_Form___init__ => first | k_is | rfl)
    (case k_Form___init__ => first | k_is | rfl)
    (case a_first_turn => first | k_is | rfl)
    (case l_first_turn => first | k_is | rfl)
    (case c_first_turn => first | k_is | rfl)
    (case k_first_turn => first | k_is | rfl)
    (case a__law_number => first | k_is | rfl)
    (case l__law_number => first | k_is | rfl)
    (case c__law_number => first | k_is | rfl)
    (case k__law_number => first | k_is | rfl)
    (case a__law_is_integer => first | k_is | rfl)
    (case l__law_is_integer => first | k_is | rfl)
    (case c__law_is_integer => first | k_is | rfl)
    (case k__law_is_integer => first | k_is | rfl)
    (case a__law_sign => first | k_is | rfl)
    (case l__law_sign => first | k_is | rfl)
    (case c__law_sign => first | k_is | rfl)
    (case k__law_sign => first | k_is | rfl)
    (case a_law => first | k_is | rfl)
    (case l_law => first | k_is | rfl)
    (case c_law => first | k_is | rfl)
    (case k_law => first | k_is | rfl)
    (case z_bool => first | k_is | rfl)
    (case z_int => first | k_is | rfl)
    (case z_isinstance => first | k_is | rfl)
    (case z_len => first | k_is | rfl)
#print axioms PySem.Challenge.cw_lentbytes_k02_first_turn_holds
