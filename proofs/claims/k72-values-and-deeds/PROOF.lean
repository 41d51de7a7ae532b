import PyProof.Rows.All
import Wide.All
import OpenK.AllK
import Wide.FinOn
import PyProof.InstNe
import HandS.ForMost
import HandS.ForExc
import HandS.Wide
import HandS.Defaults
import HandS.Star
import HandS.More
import HandS.IsInst
import HandS.SlotsOwn
import HandS.ExcInit
import HandS.ExcSuper
import KE.KExcSuper
import HandS.ExcField
import HandS.ExcIs
import HandS.TryOnly
import HandS.TryMany
import HandS.HotCalls
import KE.KExcIs
import HandS.ExcOwn
import HandS.RaiseMore
import HandS.Text
import HandS.Iter
import HandS.DictComp
import HandS.Dict
import HandS.TupAny
import HandS.StrMore
import HandS.Sort
import HandS.WordsDict
import HandS.Style
import HandS.WordsExc
import HandS.SortInts
import HandS.Rev
import HandS.DictEq
import HandS.Deep
import HandS.Finally
import HandS.RevRange
import KE.KDictCopyH
import HandS.TupMul
import HandS.CallLocal
import HandS.Conv
import KE.KOpsOwn
import KE.GoesMore
import HandS.Property
import HandS.ExcBuiltin
import PySem.Challenge.RW_lentbytes_k72_values_and_deeds_of_live_v
set_option Elab.async false
set_option linter.all false
set_option maxRecDepth 100000
set_option maxHeartbeats 4000000
namespace Lb
open PySem PySem.Spec PyProof.Rows L2
section
variable {P : Program} {w : World} {K : PySem.W.Frag} {mg : Str → Option Value} {base : Heap} {CX : CXT} {k : Nat} {f : Addr} {sp : Sp}
theorem FnOk.r0 {fd : FuncData} {ps : List Str} (F : FnOk P w K mg base CX k f fd ps sp) (hb : Binds K fd ps []) : FnR P w K mg base CX k f sp :=
  (F.raw hb .nil).imp fun vs H Q E h => by rw [List.append_nil]; exact h
end
section
variable {X : Cx} {CX : CXT} {k : Nat} {f C : Addr} {sp : Sp} {E : L2.St → XK} {x m : Str} {p pos apos : Pos} {e o : Expr} {es : List Expr} {ta : TE} {t : TA}
/-- the callee runs, the wish at these slots -/
theorem run_fnX {pins : List (Addr × Obj)} {σ : L2.St} {H : Hp} {s : Shared} {Q : VK} {us : List Value} {vs : List V} (F : FnR X.prog X.w X.K X.mg X.base CX k f sp) (hr : Room k X.A) (hx : PassesAt CX X σ (E σ))
    (I : Inv X pins σ H s) (r : Vals vs us) (h : sp vs H Q (E σ)) : wpAny (model X.prog X.w) X.A (call (.ref f) us) (EP X pins σ Q) X.xe s := by
  refine wpAny_call (codeAny_mono (F X.A X.stack s H us vs Q (E σ) hr I.env0 r h) fun r s' hq => ?_)
  cases r with
  | error e => exact hx pins H s e s' I hq
  | ok fl =>
    cases fl with
    | ret u => exact I.after hq
    | next => exact False.elim hq
    | brk => exact False.elim hq
    | cont => exact False.elim hq
/-- f(..) -/
def tCallX (sp : Sp) (E : L2.St → XK) (t : TA) : TE := fun σ H Q => t σ H fun vs H1 => sp vs H1 Q (E σ)
theorem pe_callX (F : FnR X.prog X.w X.K X.mg X.base CX k f sp) (hr : Room k X.A) (hg : Gl X x) (hm : X.mg x = some (.ref f)) (hk : PySem.W.keepIn X.K (.ref f) = true) (hx : ∀ σ, PassesAt CX X σ (E σ))
    (ha : PA X (e :: es) t) (hdb : (x == ("__debug__" : Str)) = false := by decide) (he : starEach (e :: es) X.env = (false, eval e X.env) :: starEach es X.env := by rfl) (hpl : (backTo pos (starEach es X.env)).any (·.1) = false := by rfl) :
    PE X (.Call (.Name x p) (e :: es) [] pos) (tCallX sp E t) := by
  refine ⟨fun pins s σ H Q I h => ?_⟩
  refine wpAny_Call_Name_kw (ld_glob I hg hm ?_ hdb)
  refine PySem.W.callWith_K (h₀ := X.base) I.ok.mod.kin hk (thn (ha.run pos pins s σ H _ I h) fun us s1 ⟨vs, H1, I1, r, q⟩ => ⟨I1.kIn, ?_⟩) he hpl
  exact run_fnX F hr (hx σ) I1 r q
/-- o.m(..) of an instance of the class at C -/
def tMethX (C : Addr) (m : Str) (sp : Sp) (E : L2.St → XK) (ta : TE) (t : TA) : TE := fun σ H Q => ta σ H fun x H1 => ∃ a dx fs, x = .ref a ∧ H1 a = some (.ins C dx fs) ∧ fs.lookup m = none ∧
  t σ H1 fun vs H2 => sp (x :: vs) H2 Q (E σ)
theorem pe_methX {pl : Sem Bool} (he : PE X o ta) (c : Cls X.K C) (hm : Meth X.K C m f) (F : FnR X.prog X.w X.K X.mg X.base CX k f sp) (hr : Room k X.A) (hx : ∀ σ, PassesAt CX X σ (E σ)) (ha : PA X (e :: es) t)
    (hst : starEach (e :: es) X.env = (false, eval e X.env) :: starEach es X.env := by rfl) (hpl : (backTo pos (starEach es X.env)).any (·.1) = false := by rfl)
    (ht : eval (.Call (.Attribute o m apos) (e :: es) [] pos) X.env = (do
      let ov ← eval o X.env
      standAt apos.atName
      let (f, first) ← holding [ov] (getMethod ov m pl)
      callWith pos f first (backTo pos (starEach (e :: es) X.env)) (backToKw pos (keywordEach [] X.env))) := by rfl) :
    PE X (.Call (.Attribute o m apos) (e :: es) [] pos) (tMethX C m sp E ta t) := by
  refine ⟨fun pins s σ H Q I h => ?_⟩
  refine PySem.W.methodCall_KW (pl := pl) (thn (he.run pins s σ H _ I h) fun u s1 ⟨x, H1, I1, rx, a, dx, fs, ex, ea, l, q⟩ => ?_) ht
  subst ex
  obtain rfl : u = Value.ref a := rx
  refine getmeth_ok I1 ea c hm l ?_
  refine PySem.W.callWith_K (first := [.ref a]) (h₀ := X.base) I.ok.mod.kin hm.kp (thn (ha.run pos pins s1 σ H1 _ I1 q) fun us s2 ⟨vs, H2, I2, r, q2⟩ => ⟨I2.kIn, ?_⟩) hst hpl
  exact run_fnX (us := .ref a :: us) (vs := .ref a :: vs) F hr (hx σ) I2 (.cons rfl r) q2
theorem pe_methX0 {pl : Sem Bool} (he : PE X o ta) (c : Cls X.K C) (hm : Meth X.K C m f) (F : FnR X.prog X.w X.K X.mg X.base CX k f sp) (hr : Room k X.A) (hx : ∀ σ, PassesAt CX X σ (E σ))
    (ht : eval (.Call (.Attribute o m apos) [] [] pos) X.env = (do
      let ov ← eval o X.env
      standAt apos.atName
      let (f, first) ← holding [ov] (getMethod ov m pl)
      callWith pos f first (backTo pos (starEach [] X.env)) (backToKw pos (keywordEach [] X.env))) := by rfl) :
    PE X (.Call (.Attribute o m apos) [] [] pos) (tMethX C m sp E ta tNil) := by
  refine ⟨fun pins s σ H Q I h => ?_⟩
  refine PySem.W.methodCall_KW (pl := pl) (thn (he.run pins s σ H _ I h) fun u s1 ⟨x, H1, I1, rx, a, dx, fs, ex, ea, l, q⟩ => ?_) ht
  subst ex
  obtain rfl : u = Value.ref a := rx
  refine getmeth_ok I1 ea c hm l ?_
  exact PySem.W.callWith_K0 (first := [.ref a]) I1.kIn hm.kp (run_fnX (us := [.ref a]) (vs := [.ref a]) F hr (hx σ) I1 (.cons rfl .nil) q)
/-- C(..) -/
def tMakeX (C : Addr) (sp : Sp) (E : L2.St → XK) (t : TA) : TE := fun σ H Q => t σ H fun vs H1 => ∀ x dx, H1 x = none → H1 dx = none → dx ≠ x →
  sp (.ref x :: vs) (upd (upd H1 dx (.own x)) x (.ins C dx [])) (fun v H2 => v = .non ∧ Q (.ref x) H2) (E σ)
theorem run_makeX {pins : List (Addr × Obj)} {σ : L2.St} {H : Hp} {s : Shared} {Q : VK} {us : List Value} {vs : List V} (M : Mk X.K C f) (F : FnR X.prog X.w X.K X.mg X.base CX k f sp) (hr : Room (k + 1) X.A)
    (hx : PassesAt CX X σ (E σ)) (I : Inv X pins σ H s) (r : Vals vs us)
    (h : ∀ x dx, H x = none → H dx = none → dx ≠ x → sp (.ref x :: vs) (upd (upd H dx (.own x)) x (.ins C dx [])) (fun v H2 => v = .non ∧ Q (.ref x) H2) (E σ)) :
    wpAny (model X.prog X.w) X.A (call (.ref C) us) (EP X pins σ Q) X.xe s := by
  have hq := h (s.heap.objs.size + 1) s.heap.objs.size (I.hok.fresh (Nat.le_succ _)) (I.hok.fresh (Nat.le_refl _)) (Nat.ne_of_lt (Nat.lt_succ_self _))
  have I2 := Inv.made (C := C) I
  have r2 : Vals (V.ref (s.heap.objs.size + 1) :: vs) (Value.ref (s.heap.objs.size + 1) :: us) := .cons rfl r
  refine wpAny_call (make_map (f := f) I.kIn M.makes M.init (beq_iff_eq.mp M.fn) (codeAny_mono (F _ X.stack _ _ (Value.ref (s.heap.objs.size + 1) :: us) _ _ (E σ) (hr.make C us [])
    (I2.env0.make C us []) r2 hq) fun r s' hq' => ?_))
  cases r with
  | error e => exact hx pins _ _ e s' I2 hq'
  | ok fl =>
    cases fl with
    | ret u =>
      obtain ⟨v, H', I3, rv, ev, q3⟩ := I2.after hq'
      subst ev
      exact ⟨rv, ⟨V.ref (s.heap.objs.size + 1), H', I3, rfl, q3⟩⟩
    | next => exact False.elim hq'
    | brk => exact False.elim hq'
    | cont => exact False.elim hq'
theorem pe_makeX (M : Mk X.K C f) (F : FnR X.prog X.w X.K X.mg X.base CX k f sp) (hr : Room (k + 1) X.A) (hg : Gl X x) (hm : X.mg x = some (.ref C)) (hx : ∀ σ, PassesAt CX X σ (E σ))
    (ha : PA X (e :: es) t) (hdb : (x == ("__debug__" : Str)) = false := by decide) (he : starEach (e :: es) X.env = (false, eval e X.env) :: starEach es X.env := by rfl) (hpl : (backTo pos (starEach es X.env)).any (·.1) = false := by rfl) :
    PE X (.Call (.Name x p) (e :: es) [] pos) (tMakeX C sp E t) := by
  refine ⟨fun pins s σ H Q I h => ?_⟩
  refine wpAny_Call_Name_kw (ld_glob I hg hm ?_ hdb)
  refine PySem.W.callWith_K (h₀ := X.base) I.ok.mod.kin M.kp (thn (ha.run pos pins s σ H _ I h) fun us s1 ⟨vs, H1, I1, r, q⟩ => ⟨I1.kIn, ?_⟩) he hpl
  exact run_makeX M F hr (hx σ) I1 r q
theorem pe_makeX0 (M : Mk X.K C f) (F : FnR X.prog X.w X.K X.mg X.base CX k f sp) (hr : Room (k + 1) X.A) (hg : Gl X x) (hm : X.mg x = some (.ref C)) (hx : ∀ σ, PassesAt CX X σ (E σ))
    (hdb : (x == ("__debug__" : Str)) = false := by decide) : PE X (.Call (.Name x p) [] [] pos) (tMakeX C sp E tNil) := by
  refine ⟨fun pins s σ H Q I h => ?_⟩
  refine wpAny_Call_Name_kw (ld_glob I hg hm ?_ hdb)
  exact PySem.W.callWith_K0 I.kIn M.kp (run_makeX (us := []) M F hr (hx σ) I .nil h)
theorem inst_at {pins : List (Addr × Obj)} {σ : L2.St} {H : Hp} {s : Shared} {a C dx : Addr} {fs : List (Str × V)} (I : Inv X pins σ H s) (h : H a = some (.ins C dx fs)) : ∃ ox od, PySem.W.InstAt s.heap a ox C od := by
  obtain ⟨mA, O, _⟩ := ins_get I.hok h
  obtain ⟨od, J, _⟩ := O.look
  exact ⟨_, _, J⟩
/-- the class says the name itself, by a def -/
structure OwnDef (K : PySem.W.Frag) (C : Addr) (nm : Str) (f : Addr) : Prop where
  at_ : PySem.W.findIn K (.ref C) nm = some (some (.ref f))
  fn : PySem.W.isFn K (.ref f) = true
theorem cmp_back {pins : List (Addr × Obj)} {σ : L2.St} {Q : VK} {v : Value} {s' : Shared} (h : EP X pins σ Q v s') : PySem.W.CmpBack (EP X pins σ Q) v s' := by
  obtain ⟨z, H', I', r, q⟩ := h
  exact SlX.cmpback r ⟨z, H', I', r, q⟩
/-- x op y, both of the class at C -/
def rOwn2 (C : Addr) (sp : Sp) (E : XK) : R2 := fun x y H Q => ∃ a b dx dy fs gs, x = .ref a ∧ y = .ref b ∧ H a = some (.ins C dx fs) ∧ H b = some (.ins C dy gs) ∧ sp [.ref a, .ref b] H Q E
theorem op_own2 {op : Operator} {E : XK} (hc : PySem.W.selfFirst X.K C = true) (o : OwnDef X.K C (PySem.dunder op.info.2) f) (F : FnR X.prog X.w X.K X.mg X.base CX k f sp) (hr : Room k X.A) (hx : Passes CX X E) :
    OpR X (binaryOp op) (rOwn2 C sp E) := by
  intro pins s σ H x y v u Q I rx ry h
  obtain ⟨a, b, dx, dy, fs, gs, rfl, rfl, ha, hb, q⟩ := h
  obtain rfl : v = Value.ref a := rx
  obtain rfl : u = Value.ref b := ry
  obtain ⟨ox, od, J⟩ := inst_at I ha
  obtain ⟨oy, oe, J'⟩ := inst_at I hb
  obtain ⟨m, fr⟩ := I.fr
  refine PySem.W.binop_K fr I.ok.mod.kin J J'.type hc o.at_ o.fn ?_
  exact wpAny_mono (run_fnX (E := fun _ => E) (vs := [.ref a, .ref b]) (us := [.ref a, .ref b]) F hr (fun pins H s e s' => hx pins σ H s e s') I (.cons rfl (.cons rfl .nil)) q) (fun _ _ z => cmp_back z) fun _ _ z => z
/-- x op n, n an int -/
def rOwnI (C : Addr) (sp : Sp) (E : XK) : R2 := fun x y H Q => ∃ a dx fs i, x = .ref a ∧ y = .int i ∧ H a = some (.ins C dx fs) ∧ sp [.ref a, .int i] H Q E
theorem op_ownI {op : Operator} {E : XK} (hc : PySem.W.selfFirst X.K C = true) (o : OwnDef X.K C (PySem.dunder op.info.2) f) (hr' : PySem.W.findIn X.K (.ref C) (PySem.dunderR op.info.2) = some none)
    (h1 : ∃ fo, PySem.W.findIn X.K (.type "int") (PySem.dunder op.info.2) = some fo) (h2 : ∃ fo, PySem.W.findIn X.K (.type "int") (PySem.dunderR op.info.2) = some fo) (hsub : PySem.W.subIn X.K (.type "int") (.ref C) = some false)
    (F : FnR X.prog X.w X.K X.mg X.base CX k f sp) (hr : Room k X.A) (hx : Passes CX X E) :
    OpR X (binaryOp op) (rOwnI C sp E) := by
  intro pins s σ H x y v u Q I rx ry h
  obtain ⟨a, dx, fs, i, rfl, rfl, ha, q⟩ := h
  obtain ⟨fo, h1⟩ := h1
  obtain ⟨ro, h2⟩ := h2
  obtain rfl : v = Value.ref a := rx
  obtain ⟨tk, rfl⟩ : ∃ tk, u = Value.int i tk := ry
  obtain ⟨ox, od, J⟩ := inst_at I ha
  obtain ⟨m, fr⟩ := I.fr
  refine PySem.W.ksp_binT (T := "int") (rc := none) fr I.ok.mod.kin J rfl hc o.at_ o.fn hr' (.inl rfl) h1 h2 hsub ?_
  exact wpAny_mono (run_fnX (E := fun _ => E) (vs := [.ref a, .int i]) (us := [.ref a, .int i tk]) F hr (fun pins H s e s' => hx pins σ H s e s') I (.cons rfl (.cons ⟨tk, rfl⟩ .nil)) q) (fun _ _ z => cmp_back z) fun _ _ z => z
end
end Lb
namespace Lb
open PySem PySem.Spec PyProof.Rows L2
end Lb
namespace Lb
open PySem PySem.Spec PyProof.Rows L2
section
variable {X : Cx} {σ : L2.St} {H : Hp} {Q : VK} {QB : Bool → Hp → Prop} {K : PySem.W.Frag} {ta tb tc : TE} {t u : TT} {i : Nat} {v x y : V} {r r' : R2}
def rAdd : R2 := rI0 fun i j => .int (i + j)
def rAddS : R2 := fun x y H Q => ∃ i j, x = .str i ∧ y = .str j ∧ i.length + j.length ≤ sizeLine ∧ Q (.str (i ++ j)) H
def rSub : R2 := rI0 fun i j => .int (i - j)
theorem op_subI : OpR X (binaryOp .Sub) rSub := op_sub
def rMul : R2 := rI CMulW fun i j => .int (i * j)
def rMulA : R2 := fun x y H Q => rMul x y H Q ∨ rRep x y H Q
theorem op_mulA : OpR X (binaryOp .Mult) rMulA := op_mulW.or op_rep
def rPow : R2 := rI CPow fun i j => .int (i ^ j.toNat)
theorem op_powI : OpR X (binaryOp .Pow) rPow := op_pow
def rEqA (K : PySem.W.Frag) : R2 := fun x y H Q => rEq x y H Q ∨ rEqD K x y H Q
theorem op_eqA (hu : X.A.units + 64 < cLine) : OpR X (compareOp .Eq) (rEqA X.K) := op_eq.or (op_eqD hu)
def rNeA (K : PySem.W.Frag) : R2 := fun x y H Q => rNe x y H Q ∨ rNeD K x y H Q
theorem op_neA (hu : X.A.units + 64 < cLine) : OpR X (compareOp .NotEq) (rNeA X.K) := op_ne.or (op_neD hu)
def rLt : R2 := rI0 fun i j => .bl (decide (i < j))
def rLe : R2 := rI0 fun i j => .bl (decide (i ≤ j))
def rGt : R2 := rI0 fun i j => .bl (decide (j < i))
def rGe : R2 := rI0 fun i j => .bl (decide (j ≤ i))
theorem op_ltI : OpR X (compareOp .Lt) rLt := op_lt
theorem op_leI : OpR X (compareOp .LtE) rLe := op_le
theorem op_gtI : OpR X (compareOp .Gt) rGt := op_gt
theorem op_geI : OpR X (compareOp .GtE) rGe := op_ge
def rIs0 : R2 := fun x y H Q => y = .non ∧ Q (.bl (decide (x = .non))) H
def rIsnt0 : R2 := fun x y H Q => y = .non ∧ Q (.bl (!decide (x = .non))) H
theorem op_is0 : OpR X (compareOp .Is) rIs0 := op_isN
theorem op_isnt0 : OpR X (compareOp .IsNot) rIsnt0 := op_notN
def uNeg : V → Hp → VK → Prop := rU fun i => .int (-i)
theorem un_negI : UnR X (unaryOp .USub) uNeg := un_neg
def kLen (K : PySem.W.Frag) : List V → Hp → VK → Prop := fun xs H Q => ∃ x n, xs = [x] ∧ LenV K x H n ∧ Q (.int n) H
theorem call_lenA : CallR X (.builtin "len") (kLen X.K) := call_len
def kInt : List V → Hp → VK → Prop := fun xs H Q => (∃ i, xs = [.int i] ∧ Q (.int i) H) ∨ ∃ k, xs = [.bl k] ∧ Q (.int (if k then 1 else 0)) H
theorem call_intA : CallR X (.type "int") kInt := call_int1
def kAbs : List V → Hp → VK → Prop := fun xs H Q => ∃ i, xs = [.int i] ∧ Q (.int (if i < 0 then -i else i)) H
theorem call_absA : CallR X (.builtin "abs") kAbs := call_abs
variable {QA : List V → Hp → Prop} {tr : TA}
variable {n m : Int} {b : Bool} {s z : Str}
variable {D : Ends} {t1 t2 : TS}
end
/-- what isinstance asks of a class of the text's own -/
structure IsiC (K : PySem.W.Frag) (C : Addr) : Prop where
  cl : Cls K C
  ha : PySem.W.findIn K (.ref C) "__class__" = some (some (.builtin "object.__class__"))
  hn : PySem.W.specialIn K (.builtin "object.__class__") "__get__" = some (some (.builtin "getset_descriptor.__get__"))
  htk : PySem.W.takesIn K (.builtin "object.__class__") = some true
  hm : PySem.W.mroIn K C (.type "object") = some true
  kit : PySem.W.kitOne K (.ref C) (.ref C) = some true
theorem Same.upd {H H1 : Hp} {x : Addr} {o : HO} (s : Same H H1) (n : H x = none) : Same H (L2.upd H1 x o) := fun b u e => by
  rw [upd_ne (ne_of_none e n)]; exact s b u e
theorem Same.new {H : Hp} {x : Addr} {o : HO} (n : H x = none) : Same H (L2.upd H x o) := Same.upd (Same.refl H) n
end Lb
namespace Lb
open PySem PySem.Spec PyProof.Rows L2
def xArgs (p1 p2 : Pos) (nm : Str) : Arguments := { posonlyargs := [], args := [{ arg := "self", annotation := none, pos := p1 }, { arg := nm, annotation := none, pos := p2 }], vararg := none, kwonlyargs := [], kw_defaults := [], kwarg := none, defaults := [] }
def xBody (msg fld nm : Str) (j : Nat) (a0 a1 a2 a3 a4 a5 b1 b2 b3 b4 : Pos) : List Stmt :=
  [.Expr (.Call (.Attribute (.Call (.Name "super" a0) [] [] a1) "__init__" a2) [.Constant (.str msg) j a3] [] a4) a5, .Assign [.Attribute (.Name "self" b1) fld b2] (.Name nm b3) b4]
/-- a fresh error at a is filled: its dict holds the field alone -/
def spX (C : Addr) (fld : Str) : Sp := fun vs H Q _ => ∃ (a : Addr) (v : V), vs = [.ref a, v] ∧ H a = some (exo a C none) ∧ ∀ dx, H dx = none → dx ≠ a → Q .non (upd (upd H dx (exd dx [(fld, v)])) a (exo a C (some dx)))
theorem super_call_eq {env : Env} {a0 a1 a2 a3 a4 : Pos} {msg : Str} {j : Nat} (hpos : (a2.endLine == a4.line) = true) :
    eval (.Call (.Attribute (.Call (.Name "super" a0) [] [] a1) "__init__" a2) [.Constant (.str msg) j a3] [] a4) env = (do
      let ov ← attributeBase (.Call (.Name "super" a0) [] [] a1) "__init__" env (eval (.Call (.Name "super" a0) [] [] a1) env)
      standAt a2.atName
      let (f, first) ← holding [ov] (getMethod ov "__init__" (pure false))
      callWith a4 f first (backTo a4 (starEach [.Constant (.str msg) j a3] env)) []) := by
  have e : methodCallPos true (.Call (.Name "super" a0) [] [] a1) env a2 a4 = pure a4 := by
    unfold methodCallPos
    rw [if_pos (by simp [hpos])]
  have f1 : ∀ n : Sem Value, methodCallForm ([Expr.Constant (.str msg) j a3].length + ([] : List Keyword).length) (backTo a4 (starEach [.Constant (.str msg) j a3] env)) (backToKw a4 (keywordEach [] env)) = true := fun _ => rfl
  have q : eval (.Call (.Attribute (.Call (.Name "super" a0) [] [] a1) "__init__" a2) [.Constant (.str msg) j a3] [] a4) env = (do
      let ov ← attributeBase (.Call (.Name "super" a0) [] [] a1) "__init__" env (eval (.Call (.Name "super" a0) [] [] a1) env)
      standAt a2.atName
      methodCall (.Call (.Name "super" a0) [] [] a1) "__init__" a2 a4 env ov ([Expr.Constant (.str msg) j a3].length + ([] : List Keyword).length) (backTo a4 (starEach [.Constant (.str msg) j a3] env)) (backToKw a4 (keywordEach [] env))) := by
    rfl
  rw [q]
  unfold methodCall calleeOf
  simp only [f1 (pure .none), if_true, e, importBound, pure_bind, Option.getD_some]
  rfl
section
variable {prog : Program} {w : World} {A : Around} {E : Value → Shared → Prop} {h : Heap} {g : Array GenState} {d : Drawn} {t : Nat} {os : OsState}
variable {nm q : Str} {C N : Addr} {bs bm : List Value} {hdct : Bool} {sn : List Str} {sub : List Value} {ab : Bool} {col : Option Bool} {dd : Option Addr} {k0 k1 k2 k3 k5 : Option Value}
/-- the wrapper of ValueError.__init__ at u, bound to the error at e, is called -/
theorem call_mwV {u e t0 : Addr} {more : List Value} {Q : Value → Shared → Prop}
    (hC : h.get? C = some (excClassObj nm q C N bs bm hdct sn sub ab col dd k0 k1 k2 k3 k5 "ValueError.__new__")) (he : h.get? e = some (HandSPX.excO C t0)) (hu : h.get? u = some (PySem.W.kxs_mw "ValueError.__init__" e)) (hm : more.length ≤ sizeLine)
    (hq : ∀ h' t1, (∀ b o, b ≠ e → h.get? b = some o → h'.get? b = some o) → h'.get? e = some (HandSPX.excO C t1) → Q .none ⟨h', g, d, t, os⟩) :
    wpAny (model prog w) A (call (.ref u) more) Q E ⟨h, g, d, t, os⟩ := by
  refine wpAny_call (codeAny_of_tree ?_)
  show wpAny _ A.in1 (callAny (.ref u) ⟨more, []⟩) _ _ _
  simp only [callAny]
  refine wpAny_bind (wpAny_load hu ?_)
  simp only [PySem.W.kxs_mw, show (Value.type "method-wrapper" == Value.type "method" || Value.type "method-wrapper" == Value.type "builtin_function_or_method" || Value.type "method-wrapper" == Value.type "method-wrapper") = true by decide, if_true]
  refine PySem.W.KFB.if_so (by decide) ?_
  refine wpAny_bind (PySem.ESX.check_bound F.excBase_ValueError hC he rfl ?_)
  refine wpAny_bind (wpAny_pure (wpAny_pure ?_))
  refine ⟨Code.quiet_builtin _ (by decide +kernel), codeAny_builtin F.excBase_ValueError.initEntry ?_⟩
  rw [Around.under_plainId F.excBase_ValueError.init.plain _]
  wp_walk
  refine hq _ h.objs.size (fun b o hb ho => ?_) ?_
  · rw [Heap.get?_update_other _ _ (Ne.symm hb)]
    exact Heap.get?_push_of_some _ ho
  · rw [Heap.get?_update_self _ (Heap.get?_push_of_some _ he) rfl]
    rfl
end
theorem fn_excInit {P : Program} {w : World} {K : PySem.W.Frag} {mg : Str → Option Value} {base : Heap} {CX : CXT} {f C cda cc : Addr} {qual nm fld msg : Str} {scope : Scope}
    {p1 p2 a0 a1 a2 a3 a4 a5 b1 b2 b3 b4 : Pos} {j : Nat} {oc kV doc pm ct ccl cl : Value} {an od cdd cld : Option Addr} {osl ccs csl : Array (Option Value)} {cvs : Array Value} {file : Str} {tf : Tok} {cd : ClassData}
    (lk : K.lookup f = some ⟨oc, od, .func (PySem.W.ksFn "__init__" qual (xArgs p1 p2 nm) (xBody msg fld nm j a0 a1 a2 a3 a4 a5 b1 b2 b3 b4) scope .none kV doc pm an (.ref cda) ct cc), osl⟩)
    (hcd : PySem.W.codeIn K (.ref cda) qual = true) (hcode : K.lookup cda = some ⟨ccl, cdd, .fields cvs, ccs⟩) (hvs : cvs[2]? = some (.str file tf)) (hfile : ((P.main.file : Str) == file) = true)
    (hcell : K.lookup cc = some ⟨cl, cld, .cell (some (.ref C)), csl⟩)
    (ss : scope.names.lookup ("super" : Str) = some .globalImplicit) (sc : scope.names.lookup ("__class__" : Str) = some .free) (sl : scope.names.lookup ("self" : Str) = some .local) (sn : scope.names.lookup nm = some .local)
    (sk : scope.kind = .function) (nocell : ∀ x ∈ scope.names, x.2 ≠ .cell) (sco : scope.isCoroutine = false) (sgen : scope.isGenerator = false) (hne : ¬ nm = ("self" : Str)) (hdb : (nm == ("__debug__" : Str)) = false)
    (hcl : PySem.W.clsIn K C = some cd) (hsub : PySem.W.mroIn K C (.ref C) = some true) (hal : PySem.W.alongIn K "__init__" ((cd.mro.dropWhile (· != .ref C)).drop 1) = some (some (.builtin "ValueError.__init__")))
    (hVE : PySem.W.subIn K (.ref C) (.type "ValueError") = some true) (hop : PySem.W.nsIn K cStatics "thirdparty.any" = some none) (hsup : mg "super" = none) (htop : (P.main.scope.names.lookup ("super" : Str)).isSome = false)
    (T : OexC K C) (hno : PySem.W.findIn K (.ref C) fld = some none) (hpos : (a2.endLine == a4.line) = true) (hbind : ∀ (s : Shared) (u v : Value), BindsTo s (PySem.W.ksFn "__init__" qual (xArgs p1 p2 nm) (xBody msg fld nm j a0 a1 a2 a3 a4 a5 b1 b2 b3 b4) scope .none kV doc pm an (.ref cda) ct cc) ⟨[u, v], []⟩ [("self", u), (nm, v)]) :
    FnR P w K mg base CX 1 f (spX C fld) := by
  intro A outer s H us vs Q E hr e0 r hs
  obtain ⟨a, v, rfl, ha, k⟩ := hs
  obtain ⟨u0, u, rfl, r0, ru⟩ := vals2 r
  obtain rfl : u0 = Value.ref a := r0
  have KX : K.In s.heap := e0.mod.kin.keeps fun b o e => (e0.bs b o e).1
  have lim : s.heap.NoLimit := e0.mod.nolimit.keeps fun b o e => (e0.bs b o e).1
  refine PySem.ks_codeAny_call_defAt hr.depth (KX _ _ lk) rfl lim (PySem.W.codeRec_of KX hcd) rfl (hbind s (.ref a) u) nocell (fun x hx => ?_) (fun h1 hns hk1 => ?_) sco sgen sk
  · rcases List.mem_cons.mp hx with rfl | hx
    · exact sl
    · rcases List.mem_cons.mp hx with rfl | hx
      · exact sn
      · cases hx
  obtain ⟨t1, hoe⟩ := exo_at e0.hok ha
  obtain ⟨hp, g, d, tk, os⟩ := s
  have K1 : K.In h1 := KX.keeps hk1
  have I1 : PySem.W.InstAt h1 a _ C none := ⟨hk1 _ _ hoe, rfl, rfl, trivial⟩
  have base1 : ∀ b o, base.get? b = some o → h1.get? b = some o := fun b o e => hk1 b o (e0.bs b o e).1
  obtain ⟨mb, hmb, hmb2⟩ := e0.mod.blt
  obtain ⟨oD, hD1, hD2⟩ : ∃ oD, h1.get? C = some oD ∧ oD.data = .cls cd := by
    unfold PySem.W.clsIn at hcl
    split at hcl
    · rename_i c d cd' sl ho
      cases hcl
      exact ⟨_, K1 _ _ ho, rfl⟩
    · cases hcl
  have m0 : (List.lookup ("self" : Str) ([(("self" : Str), Value.ref a), (nm, u)] : List (Str × Value)).reverse) = some (Value.ref a) := by
    show List.lookup ("self" : Str) [(nm, u), (("self" : Str), Value.ref a)] = _
    have e : ((("self" : Str)) == nm) = false := by simpa using fun z => hne z.symm
    simp [List.lookup, e]
  have m1 : (List.lookup nm ([(("self" : Str), Value.ref a), (nm, u)] : List (Str × Value)).reverse) = some u := by
    show List.lookup nm [(nm, u), (("self" : Str), Value.ref a)] = _
    simp [List.lookup]
  refine PySem.ks_wpAt_execs_cons (PySem.ks_wpAt_Expr_any (PySem.ks_wpAt_MethodCall ?_ (super_call_eq hpos)) (by simp [interactive, callEnv, newEnv, sk]) (by rfl))
  refine PySem.ks_wpAt_super_base (env := _) ss sc (by decide) rfl (K1 _ _ lk) rfl rfl rfl (K1 _ _ hcode) rfl hvs hfile htop ?_
  refine PySem.W.ks_loadName_global sk ss (Calls.loadGlobal_builtin (e0.mod.glob.keeps base1) hsup (hmb.keeps base1) ((hmb2 _ (by decide +kernel)).trans (by decide +kernel)) ⟨rfl, ?_⟩)
  refine wpAny_loadName_free sk sc rfl ⟨_, K1 _ _ hcell, rfl⟩ ?_
  refine wpAny_loadName_local sk sl hns m0 ?_
  refine PySem.ks_wpAny_isType_cls hD1 hD2 ⟨rfl, ?_⟩
  refine PySem.ks_wpAny_call_super hD1 hD2 I1.at_ I1.cls (fun c e => by cases e) (PySem.W.looks_mroIn K1 hsub) (fun h2 e2 k2 => ?_)
  have K2 : K.In h2 := K1.keeps k2
  have I2 : PySem.W.InstAt h2 a _ C none := ⟨k2 _ _ I1.at_, rfl, rfl, trivial⟩
  refine PySem.W.kxs_getMethod PySem.W.kxs_ValueError e2 (PySem.W.looks_opaque K2 hop) (l₀ := cd.mro) (fun A Q E s k q => wpAny_bind ((PySem.W.looks_clsIn K2 hcl) A _ E s k (wpAny_pure q))) rfl K2 hal (I2.type.andThen (PySem.W.looks_subIn K2 hVE)) (PySem.W.ks_ne K2 I2 hcl) (by decide) ?_
  have K3 : K.In (h2.push (PySem.W.kxs_mw "ValueError.__init__" a)) := K2.keeps fun b o e => Heap.get?_push_of_some _ e
  obtain ⟨nm', q', N, bs, bm, sn', sub, ab, col, dd, k0, k1, k2', k3, k5, hC, hbm⟩ := T.cls
  refine PySem.W.kxs_callWith (i := "ValueError.__init__") (x := a) (by rfl) (Calls.evalArgs_plain (PyProof.Rows.spliced_more (Calls.Constant_str (Calls.spliced_nil ⟨Heap.get?_push_at rfl rfl, ?_⟩)) (by rfl)))
  refine call_mwV (K3 _ _ hC) (Heap.get?_push_of_some _ I2.at_) (Heap.get?_push_at rfl rfl) (by rw [sizeLine_eq]; exact (by decide : 1 ≤ 16777216)) fun h4 t4 k4 x4 => ?_
  -- self.f = x
  have old4 : ∀ b o, b ≠ a → hp.get? b = some o → h4.get? b = some o := fun b o hb e => k4 b o hb (Heap.get?_push_of_some _ (k2 _ _ (hk1 _ _ e)))
  have K4 : K.In h4 := fun b o e => by
    have hb : b ≠ a := fun z => by
      subst z
      have q := (e0.bs _ _ (e0.mod.kin _ _ e)).2
      rw [ha] at q
      cases q
    exact k4 b o hb (K3 b o e)
  have hLa : hp.objs.size ≠ a := Nat.ne_of_gt (Heap.lt_size hoe)
  have hns4 : h4.Ns hp.objs.size (fun x => List.lookup x ([(("self" : Str), Value.ref a), (nm, u)] : List (Str × Value)).reverse) := by
    obtain ⟨o, es, ep, ho, q⟩ := hns
    exact ⟨o, es, ep, k4 _ _ hLa (Heap.get?_push_of_some _ (k2 _ _ ho)), q⟩
  refine PySem.ks_wpAt_execs_cons (wpAt_of_wpAny (PySem.plainObj_wpAny_Assign_Attribute (wpAny_Name (wpAny_loadName_local sk sn hns4 m1 ?_) hdb) (by rfl)))
  refine wpAny_Name (wpAny_loadName_local sk sl hns4 m0 ?_) (by decide)
  have hcl' : PySem.W.clsIn K C = some { name := nm', bases := bs, mro := .ref C :: bm, ns := N, qualname := q', hasDict := true, slotNames := sn', subclasses := sub, abstract := ab, collection := col, hasDel := false } := by unfold PySem.W.clsIn; rw [hC] <;> rfl
  refine PySem.W.set_plain K4 (ox := { cls := .ref C, dict := none, data := .fields #[.ref t4, .none, .none, .none, .bool false, .none] }) (od := none) ⟨x4, rfl, rfl, trivial⟩ T.sa ?_
  refine PySem.HandSPX.exc_osa K4 x4 hcl' (show PySem.HandSPX.refsVE (.ref C :: bm) = true from hbm) rfl hno (fun h5 tk5 dx k5' dn dne hx hn => ?_)
  have hsz : hp.objs.size ≤ h4.objs.size := by
    obtain ⟨o, es, ep, ho, q⟩ := hns4
    exact Nat.le_of_lt (Heap.lt_size ho)
  have old5 : ∀ b o, b ≠ a → hp.get? b = some o → h5.get? b = some o := fun b o hb e => k5' b o hb (old4 b o hb e)
  have hnd : H dx = none := e0.hok.fresh (Nat.le_trans hsz dn)
  have nd : ∀ {b : Addr} {o : Obj}, hp.get? b = some o → b ≠ dx := fun {b o} q => Nat.ne_of_lt (Nat.lt_of_lt_of_le (Heap.lt_size q) (Nat.le_trans hsz dn))
  have na : ∀ {b : Addr}, H b = none → b ≠ a := fun {b} n z => by rw [z, ha] at n; cases n
  refine wpAt_of_wpAny (wpAny_execs_nil ?_)
  refine ⟨V.non, _, rfl, e0.bare, ?_, ?_, rfl, k dx hnd dne⟩
  · exact {
      keep := fun b o q n _ _ => old5 b o (na n) q
      slot := fun b o q n _ _ => ⟨o.slots, old5 b o (na n) q⟩
      free := fun b o q n _ => by rw [upd_ne (na n), upd_ne (nd q)]; exact n
      there := fun b o q _ => by
        by_cases hb : b = a
        · exact ⟨_, by rw [hb]; exact hx⟩
        · exact ⟨o, old5 b o hb q⟩
      tups := fun b xs q => by rw [upd_ne (at_ne ha q exo_tup), upd_ne (ne_of_none q hnd)]; exact q
      frzs := fun b o v q => by rw [upd_ne (at_ne ha q exo_frz), upd_ne (ne_of_none q hnd)]; exact q
      tbls := fun b ps q => ⟨#[], by rw [upd_ne (at_ne ha q exo_tbl), upd_ne (ne_of_none q hnd), q]; simp⟩ }
  · intro b o q
    by_cases hb : b = a
    · subst hb
      rw [upd_same] at q
      cases q
      exact exo_ok hx
    · rw [upd_ne hb] at q
      by_cases hd : b = dx
      · subst hd
        rw [upd_same] at q
        cases q
        exact exd_ok hn (relO_put (fs := []) ru fun g => True.intro)
      · rw [upd_ne hd] at q
        exact (e0.hok b o q).stay (fun c v hc z => old5 c v (by
            rcases hc with hc | hc
            · rw [hc]
              exact hb
            · exact at_ne ha hc exo_own) z)
          (fun c hc => by rw [upd_ne (at_ne ha hc exo_own), upd_ne (ne_of_none hc hnd)]; exact hc) (fun c xs hc => by rw [upd_ne (at_ne ha hc exo_tup), upd_ne (ne_of_none hc hnd)]; exact hc)
end Lb
namespace Lb
open PySem PySem.Spec PyProof.Rows L2
/-- an own error class that keeps one field -/
structure XTxt (P : Program) (K : PySem.W.Frag) (mg : Str → Option Value) (nm : Str) (C fI : Addr) (fld : Str) : Prop where
  g : mg nm = some (.ref C)
  T : OexC K C
  iC : PySem.W.findIn K (.ref C) "__init__" = some (some (.ref fI))
  tI : PySem.W.typeIn K (.ref fI) = some (.type "function")
  run : ∀ (w : World) (base : Heap), FnR P w K mg base (L2.CX P w) 1 fI (spX C fld)
  xf : XfC K C
  no : PySem.W.findIn K (.ref C) fld = some none
  ec : ExcC K C
/-- C(v) raised: its dict is new and holds v -/
def tMkX (C : Addr) (fld : Str) (ta : TA) : L2.St → Hp → XK → Prop := fun σ H Q => ta σ H fun vs H1 => ∃ v, vs = [v] ∧ ∀ d, H1 d = none → Q (.ref C) (some d) (upd H1 d (.xd [(fld, v)]))
section
variable {X : Cx} {nm fld : Str} {C fI : Addr} {W : WX} {e : Expr} {ta : TA} {p pos pos' : Pos}
theorem pmk_X (T : XTxt X.prog X.K X.mg nm C fI fld) (hr : Room 2 X.A) (hg : Gl X nm) (ha : PA X [e] ta)
    (hdb : (nm == ("__debug__" : Str)) = false := by decide) (he : starEach [e] X.env = (false, eval e X.env) :: starEach [] X.env := by rfl) (hpl : (backTo pos (starEach [] X.env)).any (·.1) = false := by rfl) :
    PMk X (.Call (.Name nm p) [e] [] pos) (tMkX C fld ta) := by
  intro pins s σ H Q I h
  obtain ⟨nm', q, N, bs, bm, sn, sub, ab, col, dd, k0, k1, k2, k3, k5, hC, hbm⟩ := T.T.cls
  refine wpAny_Call_Name_kw (ld_glob I hg T.g ?_ hdb)
  refine PySem.W.callWith_K (h₀ := X.base) I.ok.mod.kin T.T.kC (thn (ha.run pos pins s σ H _ I h) fun us s1 ⟨vs, H1, I1, r1, v, ev, q1⟩ => ⟨I1.kIn, ?_⟩) he hpl
  subst ev
  obtain ⟨hp, g, dr, tk, os⟩ := s1
  have hn : H1 (hp.objs.size + 1) = none := I1.hok.fresh (Nat.le_succ _)
  have up : ∀ b o, hp.get? b = some o → ((hp.push (PySem.W.kdv_tup us)).push (PySem.HandSPX.excO C hp.objs.size)).get? b = some o := fun b o e => Heap.get?_push_of_some _ (Heap.get?_push_of_some _ e)
  have at_ : ((hp.push (PySem.W.kdv_tup us)).push (PySem.HandSPX.excO C hp.objs.size)).get? (hp.objs.size + 1) = some (PySem.HandSPX.excO C hp.objs.size) := by heap_get
  have I2 : Inv X pins σ (upd H1 (hp.objs.size + 1) (exo (hp.objs.size + 1) C none)) ⟨(hp.push (PySem.W.kdv_tup us)).push (PySem.HandSPX.excO C hp.objs.size), g, dr, tk, os⟩ := I1.laid (t' := tk) up (Nat.le_succ _) (exo_ok at_)
  have hus : us.length ≤ sizeLine := by
    rw [← Paired.length r1, sizeLine_eq]
    exact (by decide : 1 ≤ 16777216)
  have hsp : spX C fld (.ref (hp.objs.size + 1) :: [v]) (upd H1 (hp.objs.size + 1) (exo (hp.objs.size + 1) C none)) (fun z H2 => z = .non ∧ ∃ (d : Addr), H1 d = none ∧ d ≠ hp.objs.size + 1 ∧ H2 = upd (upd (upd H1 (hp.objs.size + 1) (exo (hp.objs.size + 1) C none)) d (exd d [(fld, v)])) (hp.objs.size + 1) (exo (hp.objs.size + 1) C (some d))) (fun _ _ _ => False) :=
    ⟨_, v, rfl, upd_same, fun d hd hne => ⟨rfl, d, by rw [upd_ne hne] at hd; exact hd, hne, rfl⟩⟩
  refine wpAny_call (PySem.HandSPX.call_own F.excBase_ValueError (fun Y => PySem.HandSPX.refsVE_contains Y bm hbm) (I1.kIn _ _ hC) (PySem.W.looks_findIn I1.kIn T.iC) (fun self => PySem.W.bind_fn I1.kIn self T.tI) hus
    (codeAny_mono (T.run X.w X.base _ X.stack _ _ (Value.ref (hp.objs.size + 1) :: us) _ _ (fun _ _ _ => False) (hr.make C us []) (I2.env0.make C us []) (show Vals (V.ref (hp.objs.size + 1) :: [v]) (Value.ref (hp.objs.size + 1) :: us) from .cons rfl r1) hsp) fun r s' hq' => ?_))
  cases r with
  | error er =>
    obtain ⟨_, _, _, _, _, _, _, _, _, _, _, _, z⟩ := hq'
    exact z.elim
  | ok fl =>
    cases fl with
    | ret u =>
      obtain ⟨z, H2, os2, bare2, un2, hok2, rv, ev, d, hd1, hne, eH⟩ := hq'
      subst ev
      obtain ⟨h2, g2, d2, t2, os'⟩ := s'
      refine ⟨rv, mk_end (fs := [(fld, v)]) (d := d) (raises_own T.T.exC T.T.tyC) I1 (Nat.le_succ _) up un2 hok2 os2 bare2 (by rw [eH, upd_same]) (by rw [eH, upd_ne hne, upd_same]) hd1 ?_⟩
      have e3 : upd (L2.del H2 (hp.objs.size + 1)) d (.xd [(fld, v)]) = upd H1 d (.xd [(fld, v)]) := by
        funext b
        by_cases hb : b = d
        · rw [hb, upd_same, upd_same]
        · rw [upd_ne hb, upd_ne hb]
          by_cases hc : b = hp.objs.size + 1
          · rw [hc, del_same, hn]
          · rw [del_ne hc, eH, upd_ne hc, upd_ne hb, upd_ne hc]
      rw [e3]
      exact q1 d hd1
    | next => exact False.elim hq'
    | brk => exact False.elim hq'
    | cont => exact False.elim hq'
/-- raise X(e) -/
def tRaiseX (C : Addr) (fld : Str) (W : WX) (ta : TA) : TS := fun _ σ H => ta σ H fun vs H1 => ∃ v, vs = [v] ∧ ∀ d, H1 d = none → W (.ref C) (some d) σ (upd H1 d (.xd [(fld, v)]))
theorem ps_raiseX (T : XTxt X.prog X.K X.mg nm C fI fld) (hr : Room 2 X.A) (hc : X.calm = true) (tk : Takes X W) (hg : Gl X nm) (ha : PA X [e] ta)
    (hdb : (nm == ("__debug__" : Str)) = false := by decide) (he : starEach [e] X.env = (false, eval e X.env) :: starEach [] X.env := by rfl) (hpl : (backTo pos (starEach [] X.env)).any (·.1) = false := by rfl) :
    PS X (.Raise (some (.Call (.Name nm p) [e] [] pos)) none pos') (tRaiseX C fld W ta) := ps_raise hc tk (pmk_X T hr hg ha hdb he hpl)
end
section
variable {X : Cx} {x n : Str} {c : Value} {i : Nat} {body suite : List Stmt} {b0 : Stmt} {np pos pos' : Pos} {Wout : WX}
abbrev TB := WX → List (Addr × Obj) → (Value → Shared → Prop) → TS
abbrev TSu := Addr → Value → Option Addr → Obj → List (Addr × Obj) → TS
def tbA (tb : TB) : WX → TS := fun W D σ H => ∀ pn xe, tb W pn xe D σ H
def tsA (ts : TSu) : Addr → Value → Option Addr → TS := fun a cls d D σ H => ∀ oe pn, ts a cls d oe pn D σ H
theorem pss_of {X : Cx} {b : List Stmt} {t u : TS} (h : PSs X b t) (k : ∀ D σ H, u D σ H → t D σ H) : PSs X b u := ⟨fun pins s σ H D I q => h.run pins s σ H D I (k D σ H q)⟩
def tTryOnly (K : PySem.W.Frag) (c : Value) (tb : TB) (ts : TSu) (Wout : WX) : TS := fun D σ H => ∀ pn xe, tb (wOnly K c (tsA ts) Wout D) pn xe D σ H
theorem ps_tryOnly {tb : TB} {ts : TSu} (hs : X.stack = X.env :: X.outer) (hf : X.env.frame = some X.env.locals) (hc : Names X x c) (tk : Takes X Wout)
    (hb : ∀ (W : WX) (pn : List (Addr × Obj)) (xe : Value → Shared → Prop), Takes (X.tr pn xe) W → PassesOwn (model X.prog X.w) X.A X.env xe → PSs (X.tr pn xe) body (tb W pn xe))
    (hsu : ∀ (a : Addr) (oe : Obj) (cls : Value) (d : Option Addr) (pn : List (Addr × Obj)), Zc cls d oe → (∃ vs, oe.data = .fields vs) → PSs (X.suite a ((a, oe) :: pn)) (b0 :: suite) (ts a cls d oe pn)) :
    PS X (.Try body [.ExceptHandler (some (.Name x np)) none (b0 :: suite) pos'] [] [] pos) (tTryOnly X.K c tb ts Wout) :=
  ps_try_only (tb := tbA tb) (ts := tsA ts) (Wout := Wout) hs hf hc tk (fun W pn xe tk' po => pss_of (hb W pn xe tk' po) fun D σ H q => q pn xe) (fun a oe cls d pn hz hfl => pss_of (hsu a oe cls d pn hz hfl) fun D σ H q => q oe pn)
end
open L2H (RoomH roomH_of)
structure XScope (scope : Scope) (nm : Str) : Prop where
  ss : scope.names.lookup ("super" : Str) = some .globalImplicit
  sc : scope.names.lookup ("__class__" : Str) = some .free
  sl : scope.names.lookup ("self" : Str) = some .local
  sn : scope.names.lookup nm = some .local
  sk : scope.kind = .function
  nocell : ∀ x ∈ scope.names, x.2 ≠ .cell
  sco : scope.isCoroutine = false
  sgen : scope.isGenerator = false
theorem xtxt_mk {P : Program} {K : PySem.W.Frag} {mg : Str → Option Value} {C f cda cc : Addr} {cname qual nm fld msg : Str} {scope : Scope} {params : Arguments} {body : List Stmt}
    {p1 p2 a0 a1 a2 a3 a4 a5 b1 b2 b3 b4 : Pos} {j : Nat} {oc kV doc pm ct ccl cl : Value} {an od cdd cld : Option Addr} {osl ccs csl : Array (Option Value)} {cvs : Array Value} {file : Str} {tf : Tok} {cd : ClassData}
    (g : mg cname = some (.ref C)) (cls : ∃ nm q N bs bm sn sub ab col dd k0 k1 k2 k3 k5, K.lookup C = some (excClassObj nm q C N bs bm true sn sub ab col dd k0 k1 k2 k3 k5 "ValueError.__new__") ∧ PySem.HandSPX.refsVE bm = true)
    (sa : PySem.W.findIn K (.ref C) "__setattr__" = some (some (.builtin "object.__setattr__"))) (exC : PySem.W.subIn K (.ref C) (.type "BaseException") = some true) (tyC : PySem.W.typeIn K (.ref C) = some (.type "type")) (kC : PySem.W.keepIn K (.ref C) = true)
    (iC : PySem.W.findIn K (.ref C) "__init__" = some (some (.ref f))) (tI : PySem.W.typeIn K (.ref f) = some (.type "function"))
    (ga : PySem.W.findIn K (.ref C) "__getattribute__" = some (some (.builtin "BaseException.__getattribute__"))) (gg : PySem.W.findIn K (.ref C) "__getattr__" = some none) (hd : PySem.W.hasDictIn K C = true) (no : PySem.W.findIn K (.ref C) fld = some none)
    (ha : PySem.W.findIn K (.ref C) "__class__" = some (some (.builtin "object.__class__"))) (hn : PySem.W.specialIn K (.builtin "object.__class__") "__get__" = some (some (.builtin "getset_descriptor.__get__"))) (ht : PySem.W.takesIn K (.builtin "object.__class__") = some true)
    (hm : PySem.W.mroIn K C (.type "object") = some true)
    (lk : K.lookup f = some ⟨oc, od, .func (PySem.W.ksFn "__init__" qual params body scope .none kV doc pm an (.ref cda) ct cc), osl⟩)
    (hcd : PySem.W.codeIn K (.ref cda) qual = true) (hcode : K.lookup cda = some ⟨ccl, cdd, .fields cvs, ccs⟩) (hvs : cvs[2]? = some (.str file tf)) (hfile : ((P.main.file : Str) == file) = true)
    (hcell : K.lookup cc = some ⟨cl, cld, .cell (some (.ref C)), csl⟩)
    (hcl : PySem.W.clsIn K C = some cd) (hsub : PySem.W.mroIn K C (.ref C) = some true) (hal : PySem.W.alongIn K "__init__" ((cd.mro.dropWhile (· != .ref C)).drop 1) = some (some (.builtin "ValueError.__init__")))
    (hVE : PySem.W.subIn K (.ref C) (.type "ValueError") = some true) (hop : PySem.W.nsIn K cStatics "thirdparty.any" = some none) (hsup : mg "super" = none) (htop : (P.main.scope.names.lookup ("super" : Str)).isSome = false)
    (hA : params = xArgs p1 p2 nm) (hB : body = xBody msg fld nm j a0 a1 a2 a3 a4 a5 b1 b2 b3 b4) (hS : XScope scope nm) (hne : ¬ nm = ("self" : Str)) (hdb : (nm == ("__debug__" : Str)) = false) (hpos : (a2.endLine == a4.line) = true)
    (hbind : ∀ (s : Shared) (u v : Value), BindsTo s (PySem.W.ksFn "__init__" qual params body scope .none kV doc pm an (.ref cda) ct cc) ⟨[u, v], []⟩ [("self", u), (nm, v)]) :
    XTxt P K mg cname C f fld := by
  subst hA hB
  have T : OexC K C := ⟨cls, sa, exC, tyC, kC⟩
  exact ⟨g, T, iC, tI, fun w base => fn_excInit lk hcd hcode hvs hfile hcell hS.ss hS.sc hS.sl hS.sn hS.sk hS.nocell hS.sco hS.sgen hne hdb hcl hsub hal hVE hop hsup htop T no hpos hbind, ⟨ga, gg, exC, hd⟩, no, ⟨ga, gg, exC, hd, ha, hn, ht, hm⟩⟩
section
variable {K : PySem.W.Frag} {σ : L2.St} {H : Hp} {Q : VK} {D : Ends} {te to ti : TE} {g : TG} {v : V}
/-- what stands apart from the addresses in S is as it was -/
def Kp (S : List Addr) (H H' : Hp) : Prop := ∀ b o, b ∉ S → H b = some o → H' b = some o
theorem Same.kp {S : List Addr} {H H' : Hp} (s : Same H H') : Kp S H H' := fun b o _ e => s b o e
theorem Kp.trans {S : List Addr} {H H1 H2 : Hp} (a : Kp S H H1) (b : Kp S H1 H2) : Kp S H H2 := fun c o n h => b c o n (a c o n h)
theorem Kp.upd {p : Addr} {o : HO} : Kp [p] H (upd H p o) := fun b u n e => by rw [upd_ne (by simpa using n)]; exact e
end
end Lb
namespace Lb
open L2 PySem PySem.Spec PyProof.Rows
section
variable {X : Cx} {CX : CXT} {C f : Addr} {k : Nat} {sp : Sp}
def CDivZ (_ j : Int) : Prop := j ≠ 0 ∧ j.natAbs.log2 < 9000
def rDivZ : R2 := rI CDivZ fun i j => .int (i.fdiv j)
theorem op_fdivZ : OpR X (binaryOp .FloorDiv) rDivZ := opI fun _ _ _ _ _ _ _ hc q => floordiv_int hc.1 q (.inl (PyProof.noPylong_of_log2 hc.2))
def rModZ : R2 := rI (fun _ j => j ≠ 0) fun i j => .int (i.fmod j)
theorem op_modZ : OpR X (binaryOp .Mod) rModZ := op_modN
end
end Lb
namespace Lb
open L2 PySem PySem.Spec PyProof.Rows
section
variable {K : PySem.W.Frag} {σ : L2.St} {H H' H1 : Hp} {Q : VK} {D : Ends} {g : TG} {tu t1 t2 t3 t4 t5 : TS} {p q r : Addr} {o : HO} {S : List Addr}
theorem Same.sqT {K : PySem.W.Frag} {H H' : Hp} {a : Addr} {xs : List V} (e : Same H H') (h : SqT K H a xs) : SqT K H' a xs := by
  rcases h with (h | ⟨o, h⟩) | h
  · exact .inl (.inl (e _ _ h))
  · exact .inl (.inr ⟨o, e _ _ h⟩)
  · exact .inr h
end
end Lb
namespace Lb
open L2 PySem PySem.Spec PyProof.Rows
/-- an own error class without __init__ -/
structure YTxt (K : PySem.W.Frag) (mg : Str → Option Value) (nm : Str) (C : Addr) : Prop where
  g : mg nm = some (.ref C)
  q : PySem.W.excIn K C [.type "ValueError", .type "Exception", .type "BaseException", .type "object"] "ValueError.__new__" = true
  kC : PySem.W.keepIn K (.ref C) = true
  tyC : PySem.W.typeIn K (.ref C) = some (.type "type")
  ec : ExcC K C
section
variable {X : Cx} {nm m : Str} {C : Addr} {W : WX} {e : Expr} {te : TE} {p p2 pos pos' : Pos} {j : Nat} {D : Ends} {σ : L2.St} {H : Hp}
/-- raise X('..') -/
def tRaiseY (C : Addr) (W : WX) : TS := fun _ σ H => W (.ref C) none σ H
theorem ps_raiseY (T : YTxt X.K X.mg nm C) (hc : X.calm = true) (tk : Takes X W) (hg : Gl X nm) (hdb : (nm == ("__debug__" : Str)) = false := by decide) :
    PS X (.Raise (some (.Call (.Name nm p) [.Constant (.str m) j p2] [] pos)) none pos') (tRaiseY C W) :=
  ps_raise hc tk (pmk_own PySem.F.excBase_ValueError T.q T.g T.kC (raises_own T.ec.hs T.tyC) hg hdb)
end
end Lb
namespace Lb
open L2 PySem PySem.Spec PyProof.Rows
section
variable {K : PySem.W.Frag} {σ : L2.St} {H : Hp} {Q : VK} {D : Ends} {x y : V} {n m : Int} {tb : TS} {c : TT}
/-- slices of lists, tuples, texts -/
def rSlA (K : PySem.W.Frag) : V → Option Int → Option Int → Hp → VK → Prop := fun x lo hi H Q => rSlL K x lo hi H Q ∨ rSlT K x lo hi H Q ∨ rSlS x lo hi H Q
end
section
variable {X : Cx} {K : PySem.W.Frag}
theorem call_isiK' (h : X.K = K) : CallR X (.builtin "isinstance") (rIsi K) := h ▸ call_isi
theorem pe_fldK {e : Expr} {te : TE} {f : Str} {pos : Pos} (h : X.K = K) (he : PE X e te) (hb : attributeBase e f X.env (eval e X.env) = eval e X.env := by rfl) : PE X (.Attribute e f pos) (tFld K te f) := h ▸ pe_fld he hb
end
end Lb
namespace Lb
open L2 PySem PySem.Spec PyProof.Rows
theorem kbinds1 {K : PySem.W.Frag} {x qual : Str} {params : Arguments} {body : List Stmt} {scope : Scope} {dvs : List V} {kws : List (Str × V)} {f : Addr} {fd : FuncData} {ps : List Str} (F : FunD K x qual params body scope dvs kws f fd) (n : Nat) (ks : List Str)
    (g : {α : Type} → List α → List α → List α → List α) (hd : dvs ≠ [])
    (hrel : ∀ {vs ds zs : List V} {us its ws : List Value}, Vals vs us → Vals ds its → Vals zs ws → Vals (g vs ds zs) (g us its ws))
    (h : ∀ (T : Addr) (kV doc pm : Value) (an : Option Addr) (cdv ct : Value) (us its ws : List Value), us.length = n → its.length = dvs.length → ws.length = ks.length →
      ∃ k, bindArgs (PySem.W.fnOf x qual params body scope (.ref T) kV doc pm an cdv ct) ⟨us, ks.zip ws⟩ = seqItems? (.ref T) >>= k ∧ k (some its.toArray) = pure (ps.zip (g us its ws))) :
    ∃ its : List Value, KBn K fd ps n ks (fun us ws => g us its ws) (fun vs zs => g vs dvs zs) := by
  obtain ⟨oc, od, dV, kV, doc, pm, an, cdv, ct, osl, rfl, lk, hcd, hD, hK⟩ := F.ex
  rcases hD with ⟨e, _⟩ | ⟨_, T, o, its, m, rfl, lT, oT, rT⟩
  · exact absurd e hd
  · refine ⟨its, ⟨fun s us ws X l1 l2 => ?_, fun r1 r2 => hrel r1 rT r2⟩⟩
    obtain ⟨k, e1, e2⟩ := h T kV doc pm an cdv ct us its ws l1 rT.length.symm l2
    refine BindsTo.of_looks fun M => ?_
    rw [e1]
    exact looks_items X lT oT (.of_pure e2)
section
variable {X : Cx} {CX : CXT} {k n : Nat} {f C : Addr} {fd : FuncData} {ps ks : List Str} {sp : Sp} {E : L2.St → XK} {m : Str} {pos apos : Pos} {e o : Expr} {es : List Expr} {kws : List Keyword} {ta : TE} {t tk : TA} {g : List Value → List Value → List Value} {gV : List V → List V → List V}
theorem run_fnNX {pins : List (Addr × Obj)} {σ : L2.St} {H : Hp} {s : Shared} {Q : VK} {us ws : List Value} {vs zs : List V} (F : FnOk X.prog X.w X.K X.mg X.base CX k f fd ps sp) (hr : Room k X.A) (hb : KBn X.K fd ps n ks g gV) (hx : PassesAt CX X σ (E σ))
    (I : Inv X pins σ H s) (r : Vals vs us) (rz : Vals zs ws) (l1 : vs.length = n) (l2 : zs.length = ks.length) (h : sp (gV vs zs) H Q (E σ)) : wpAny (model X.prog X.w) X.A (call (.ref f) us (ks.zip ws)) (EP X pins σ Q) X.xe s := by
  have r2 := hb.rel r rz
  refine wpAny_call (codeAny_mono (F.run X.A X.stack s H ⟨us, ks.zip ws⟩ (g us ws) (gV vs zs) Q (E σ) hr I.env0 (hb.to s us ws I.kIn (r.length.symm.trans l1) (rz.length.symm.trans l2)) r2 h) fun r s' hq => ?_)
  cases r with
  | error e => exact hx pins H s e s' I hq
  | ok fl =>
    cases fl with
    | ret u => exact I.after hq
    | next => exact False.elim hq
    | brk => exact False.elim hq
    | cont => exact False.elim hq
/-- o.m(e, .., k = v, ..) -/
def tMethN (C : Addr) (m : Str) (n mk : Nat) (sp : Sp) (gV : List V → List V → List V) (E : L2.St → XK) (ta : TE) (t tk : TA) : TE := fun σ H Q => ta σ H fun x H1 => ∃ a dx fs, x = .ref a ∧ H1 a = some (.ins C dx fs) ∧ fs.lookup m = none ∧
  t σ H1 fun vs H2 => tk σ H2 fun zs H3 => (vs.length + 1 = n ∧ zs.length = mk) ∧ sp (gV (x :: vs) zs) H3 Q (E σ)
theorem pe_methN {pl : Sem Bool} (he : PE X o ta) (c : Cls X.K C) (hm : Meth X.K C m f) (F : FnOk X.prog X.w X.K X.mg X.base CX k f fd ps sp) (hr : Room k X.A) (hb : KBn X.K fd ps n ks g gV) (hx : ∀ σ, PassesAt CX X σ (E σ))
    (ha : PA X (e :: es) t) (hkw : PK X kws tk) (hall : (backToKw pos (keywordEach kws X.env)).all (·.1.isSome) = true := by rfl) (hks : (backToKw pos (keywordEach kws X.env)).filterMap (·.1) = ks := by rfl)
    (hst : starEach (e :: es) X.env = (false, eval e X.env) :: starEach es X.env := by rfl) (hpl : ((backTo pos (starEach (e :: es) X.env)).any (·.1) || (backToKw pos (keywordEach kws X.env)).any (·.1.isNone)) = false := by rfl)
    (ht : eval (.Call (.Attribute o m apos) (e :: es) kws pos) X.env = (do
      let ov ← eval o X.env
      standAt apos.atName
      let (f, first) ← holding [ov] (getMethod ov m pl)
      callWith pos f first (backTo pos (starEach (e :: es) X.env)) (backToKw pos (keywordEach kws X.env))) := by rfl) :
    PE X (.Call (.Attribute o m apos) (e :: es) kws pos) (tMethN C m n ks.length sp gV E ta t tk) := by
  refine ⟨fun pins s σ H Q I h => ?_⟩
  refine PySem.W.methodCall_KW (pl := pl) (thn (he.run pins s σ H _ I h) fun u s1 ⟨x, H1, I1, rx, a, dx, fs, ex, ea, l, q⟩ => ?_) ht
  subst ex
  obtain rfl : u = Value.ref a := rx
  refine getmeth_ok I1 ea c hm l ?_
  refine PySem.W.callWith_KW (first := [.ref a]) (h₀ := X.base) I.ok.mod.kin hm.kp hall (thn (ha.run pos pins s1 σ H1 _ I1 q) fun us s2 ⟨vs, H2, I2, r, q2⟩ => ?_) hpl hst
  refine thn (hkw.run pos pins s2 σ H2 _ I2 q2) fun ws s3 ⟨zs, H3, I3, rz, ⟨l1, l2⟩, q3⟩ => ⟨I3.kIn, ?_⟩
  rw [hks]
  exact run_fnNX (us := .ref a :: us) (vs := .ref a :: vs) F hr hb (hx σ) I3 (.cons rfl r) rz l1 l2 q3
theorem pe_methN0 {pl : Sem Bool} (he : PE X o ta) (c : Cls X.K C) (hm : Meth X.K C m f) (F : FnOk X.prog X.w X.K X.mg X.base CX k f fd ps sp) (hr : Room k X.A) (hb : KBn X.K fd ps n ks g gV) (hx : ∀ σ, PassesAt CX X σ (E σ))
    (hkw : PK X kws tk) (hall : (backToKw pos (keywordEach kws X.env)).all (·.1.isSome) = true := by rfl) (hks : (backToKw pos (keywordEach kws X.env)).filterMap (·.1) = ks := by rfl)
    (hpl : ((backTo pos (starEach [] X.env)).any (·.1) || (backToKw pos (keywordEach kws X.env)).any (·.1.isNone)) = false := by rfl)
    (ht : eval (.Call (.Attribute o m apos) [] kws pos) X.env = (do
      let ov ← eval o X.env
      standAt apos.atName
      let (f, first) ← holding [ov] (getMethod ov m pl)
      callWith pos f first (backTo pos (starEach [] X.env)) (backToKw pos (keywordEach kws X.env))) := by rfl) :
    PE X (.Call (.Attribute o m apos) [] kws pos) (tMethN C m n ks.length sp gV E ta tNil tk) := by
  refine ⟨fun pins s σ H Q I h => ?_⟩
  refine PySem.W.methodCall_KW (pl := pl) (thn (he.run pins s σ H _ I h) fun u s1 ⟨x, H1, I1, rx, a, dx, fs, ex, ea, l, q⟩ => ?_) ht
  subst ex
  obtain rfl : u = Value.ref a := rx
  refine getmeth_ok I1 ea c hm l ?_
  refine PySem.W.callWith_KW0 (first := [.ref a]) (h₀ := X.base) I.ok.mod.kin hm.kp hall (thn (hkw.run pos pins s1 σ H1 _ I1 q) fun ws s3 ⟨zs, H3, I3, rz, ⟨l1, l2⟩, q3⟩ => ⟨I3.kIn, ?_⟩) hpl
  rw [hks]
  exact run_fnNX (us := [.ref a]) (vs := [.ref a]) F hr hb (hx σ) I3 (.cons rfl .nil) rz l1 l2 q3
end
/-- a part that may be None -/
def tPartN (t : TE) : TO := fun σ H Q => t σ H fun x H1 => (x = .non ∧ Q none H1) ∨ ∃ i, x = .int i ∧ Q (some i) H1
section
variable {X : Cx} {e es : Expr} {te : TE} {lo hi : Option Expr} {tl th ts : TO} {pos p2 : Pos}
theorem po_someN (h : PE X e te) : PO X (some e) (tPartN te) := by
  refine ⟨fun pins s σ H Q I hw => ?_⟩
  rw [evalPart_some]
  refine thn (h.run pins s σ H _ I hw) fun u s1 ⟨x, H1, I1, r1, q1⟩ => ?_
  rcases q1 with ⟨rfl, q⟩ | ⟨i, rfl, q⟩
  · cases r1
    exact ⟨none, H1, I1, .none, q⟩
  · obtain ⟨t, rfl⟩ := r1
    exact ⟨some i, H1, I1, .int i t, q⟩
/-- the items of xs[lo:hi:st] -/
def pickV (xs : List V) (lo hi st : Option Int) : List V := (sliceRange (sliceBounds lo hi st xs.length).1 (sliceBounds lo hi st xs.length).2.1 (sliceBounds lo hi st xs.length).2.2).filterMap (xs[·]?)
theorem vals_pick {xs : List V} {its : List Value} (r : Vals xs its) : ∀ js : List Nat, Vals (js.filterMap (xs[·]?)) (js.filterMap (its[·]?)) := by
  have get : ∀ {xs : List V} {its : List Value}, Vals xs its → ∀ j : Nat, (xs[j]? = none ∧ its[j]? = none) ∨ ∃ x u, xs[j]? = some x ∧ its[j]? = some u ∧ RelV x u := by
    intro xs its r
    induction r with
    | nil => intro j; exact .inl ⟨rfl, rfl⟩
    | cons r1 r2 ih =>
      intro j
      cases j with
      | zero => exact .inr ⟨_, _, rfl, rfl, r1⟩
      | succ j => exact ih j
  intro js
  induction js with
  | nil => exact .nil
  | cons j js ih =>
    rcases get r j with ⟨h1, h2⟩ | ⟨x, u, h1, h2, h3⟩
    · rw [List.filterMap_cons, List.filterMap_cons, h1, h2]; exact ih
    · rw [List.filterMap_cons, List.filterMap_cons, h1, h2]; exact .cons h3 ih
theorem pickV_length (xs : List V) (lo hi st : Option Int) : (pickV xs lo hi st).length ≤ xs.length := by
  refine Nat.le_trans (List.length_filterMap_le _ _) (sliceRange_length_le _ _ _ _ (fun hc => ?_) (fun hc => ?_))
  · unfold sliceBounds at hc ⊢
    dsimp only at hc ⊢
    rw [if_pos hc, if_pos hc]
    constructor
    · cases lo with
      | none => simp
      | some i => simp only [if_pos hc]; omega
    · cases hi with
      | none => simp
      | some i => simp only [if_pos hc]; omega
  · unfold sliceBounds at hc ⊢
    dsimp only at hc ⊢
    rw [if_neg hc, if_neg hc]
    constructor
    · cases lo with
      | none => simp
      | some i => simp only [if_neg hc]; omega
    · cases hi with
      | none => simp
      | some i => simp only [if_neg hc]; omega
/-- xs[lo:hi:st] of a list: a new list -/
def tSl3 (K : PySem.W.Frag) (te : TE) (tl th ts : TO) : TE := fun σ H Q => te σ H fun x H1 => tl σ H1 fun l H2 => th σ H2 fun u H3 => ts σ H3 fun k H4 => ∃ a xs, x = .ref a ∧ SqL K H4 a xs ∧ k ≠ some 0 ∧ ∀ p, H4 p = none → Q (.ref p) (upd H4 p (.lst (pickV xs l u k)))
theorem pe_slice3 (he : PE X e te) (hl : PO X lo tl) (hu : PO X hi th) (hs : PO X (some es) ts) : PE X (.Subscript e (.Slice lo hi (some es) p2) pos) (tSl3 X.K te tl th ts) := by
  refine ⟨fun pins s σ H Q I h => ?_⟩
  refine Subscript_ (thn (he.run pins s σ H _ I h) fun v s1 ⟨x, H1, I1, r1, q1⟩ => ?_)
  refine wpAny_Slice (thn (hl.run pins s1 σ H1 _ I1 q1) fun vl s2 ⟨l, H2, I2, pl, q2⟩ => thn (hu.run pins s2 σ H2 _ I2 q2) fun vu s3 ⟨u, H3, I3, pu, q3⟩ => thn (hs.run pins s3 σ H3 _ I3 q3) fun vk s4 ⟨k, H4, I4, pk, q4⟩ => ?_)
  obtain ⟨a, xs, rfl, hx, hk, q⟩ := q4
  cases r1
  have I5 : Inv X pins σ H4 { s4 with heap := s4.heap.push { cls := .type "slice", data := .fields #[vl, vu, vk] } } := I4.kept (t' := s4.toks) fun b ob q => Heap.get?_push_of_some _ q
  obtain ⟨its, r, ht, hz⟩ := I5.list hx
  have hlen := r.length
  show wpAny (model X.prog X.w) X.A (subscriptTail e (.Slice lo hi (some es) p2) (.ref a) (.ref s4.heap.objs.size)) (EP X pins σ Q) X.xe { s4 with heap := s4.heap.push { cls := .type "slice", data := .fields #[vl, vu, vk] } }
  refine tail_any (ops := [.ref a, .ref s4.heap.objs.size]) ht.isList.typeIs slot_list_getitem.lookup ?_ (by with_unfolding_all rfl)
  refine wpAny_getItem_list_slice ht.isList (Heap.IsSliceOf.new ..) pl pu pk hk ?_ (by rw [List.size_toArray] <;> omega)
  refine ⟨.ref _, _, I5.laid (t' := s4.toks) (o := .lst (pickV xs l u k)) (fun b ob q => Heap.get?_push_of_some _ q) (Nat.le_refl _) ?_, rfl, q _ (I5.hok.fresh (Nat.le_refl _))⟩
  refine ⟨Nat.le_trans (pickV_length xs l u k) hz, (sliceRange (sliceBounds l u k its.toArray.size).1 (sliceBounds l u k its.toArray.size).2.1 (sliceBounds l u k its.toArray.size).2.2).filterMap (its[·]?), 0, ?_, Eq.trans (Heap.get?_push_size _ rfl) ?_⟩
  · unfold pickV
    rw [List.size_toArray, ← hlen]
    exact vals_pick r _
  · unfold slicePick
    simp only [List.getElem?_toArray, List.size_toArray]
end
end Lb
namespace Lb
open L2 PySem PySem.Spec PyProof.Rows
mutual
inductive Da (H : Hp) : V → PyData → Prop
  | non : Da H .non .none
  | bl (b : Bool) : Da H (.bl b) (.bool b)
  | int (i : Int) : Da H (.int i) (.int i)
  | str (x : Str) (h : x.length ≤ 100000) : Da H (.str x) (.str x)
  | lst {a : Addr} {xs : List V} {ds : List PyData} (h : H a = some (.lst xs)) (r : DaAll H xs ds) : Da H (.ref a) (.list ds)
  | tup {a : Addr} {xs : List V} {ds : List PyData} (h : H a = some (.tup xs)) (r : DaAll H xs ds) : Da H (.ref a) (.tuple ds)
inductive DaAll (H : Hp) : List V → List PyData → Prop
  | nil : DaAll H [] []
  | cons {v : V} {vs : List V} {d : PyData} {ds : List PyData} (h : Da H v d) (r : DaAll H vs ds) : DaAll H (v :: vs) (d :: ds)
end
section
variable {H : Hp} {v : V} {d : PyData} {vs us : List V} {ds es : List PyData}
theorem DaAll.len : ∀ {vs : List V} {ds : List PyData}, DaAll H vs ds → vs.length = ds.length
  | _, _, .nil => rfl
  | _, _, .cons _ a => congrArg Nat.succ a.len
theorem DaAll.get : ∀ {vs : List V} {ds : List PyData} {i : Nat} {d : PyData}, DaAll H vs ds → ds[i]? = some d → ∃ v, vs[i]? = some v ∧ Da H v d
  | _, _, 0, _, .cons h _, e => ⟨_, rfl, by cases e; exact h⟩
  | _, _, i + 1, _, .cons _ a, e => a.get (i := i) e
  | _, _, _, _, .nil, e => by cases e
theorem DaAll.append : ∀ {vs us : List V} {ds es : List PyData}, DaAll H vs ds → DaAll H us es → DaAll H (vs ++ us) (ds ++ es)
  | _, _, _, _, .nil, b => b
  | _, _, _, _, .cons h a, b => .cons h (a.append b)
theorem Da.tupI (h : Da H v (.tuple ds)) : ∃ a xs, v = .ref a ∧ H a = some (.tup xs) ∧ DaAll H xs ds := by
  cases h with
  | tup h r => exact ⟨_, _, rfl, h, r⟩
theorem Da.strI {x : Str} (h : Da H v (.str x)) : v = .str x ∧ x.length ≤ 100000 := by
  cases h with
  | str _ h => exact ⟨rfl, h⟩
theorem Da.intI {n : Int} (h : Da H v (.int n)) : v = .int n := by cases h; rfl
theorem DaAll.consI (h : DaAll H vs (d :: ds)) : ∃ v us, vs = v :: us ∧ Da H v d ∧ DaAll H us ds := by
  cases h with
  | cons h r => exact ⟨_, _, rfl, h, r⟩
theorem DaAll.nilI (h : DaAll H vs []) : vs = [] := by cases h; rfl
end
def rSign (neg : Bool) : R2 := fun x y H Q => ∃ (c : Nat) (z : Str), x = .str ⟨#[c]⟩ ∧ y = .str z ∧ Q (.bl (if neg then !decide (c ∈ z.cps.toList) else decide (c ∈ z.cps.toList))) H
/-- a name of the top that keeps a value -/
theorem pe_globE {X : Cx} {x : Str} {v : V} {pos : Pos} (hg : Gl X x) (hm : ∃ u, X.mg x = some u ∧ RelV v u) (hd : (x == ("__debug__" : Str)) = false := by decide) : PE X (.Name x pos) (tC v) := by
  obtain ⟨u, h1, h2⟩ := hm
  exact pe_glob hg h1 h2 hd
end Lb
namespace Lb
open L2 PySem PySem.Spec PyProof.Rows
end Lb
namespace Pu
open L2 PySem PySem.Spec PyProof.Rows Lb
inductive D where
  | non | bl (b : Bool) | int (i : Int) | str (s : Str) | tup (ds : List D) | ktu (ds : List D) | lsf (ds : List D) | ref (l : Nat)
inductive Ob where
  | lst (ds : List D) | dic (kvs : List (Key × D)) | dit (kvs : List (List Key × D)) | obj (C : Nat) (fs : List (Str × D)) | lok (kvs : List (Key × D))
abbrev Sto := List Ob
/-- a slot: nothing known, a value, a caught error -/
inductive Sl where
  | v (d : D) | x (k : Nat)
abbrev Env := List (Option Sl)
def SqF (K : PySem.W.Frag) (H : Hp) (a : Addr) (xs : List V) : Prop :=
  (∃ o, H a = some (.frz o (.lst xs))) ∨
    ∃ (o : Obj) (its : Array Value) (n : Nat), K.lookup a = some o ∧ o.cls = .type "list" ∧ o.dict = none ∧ o.data = .seq its n ∧ its.size ≤ sizeLine ∧ Vals xs its.toList
theorem SqF.l {K : PySem.W.Frag} {H : Hp} {a : Addr} {xs : List V} (h : SqF K H a xs) : SqL K H a xs := by
  rcases h with h | h
  · exact .inl (.inr h)
  · exact .inr h
mutual
inductive VR (K : PySem.W.Frag) (H : Hp) (π : List Addr) : V → D → Prop
  | non : VR K H π .non .non
  | bl (b : Bool) : VR K H π (.bl b) (.bl b)
  | int (i : Int) : VR K H π (.int i) (.int i)
  | str (s : Str) : VR K H π (.str s) (.str s)
  | tup {a : Addr} {xs : List V} {ds : List D} (h : H a = some (.tup xs)) (r : VRs K H π xs ds) : VR K H π (.ref a) (.tup ds)
  | ktu {a : Addr} {xs : List V} {ds : List D} (h : SqT K H a xs) (r : VRs K H π xs ds) : VR K H π (.ref a) (.ktu ds)
  | lsf {a : Addr} {xs : List V} {ds : List D} (h : SqF K H a xs) (r : VRs K H π xs ds) : VR K H π (.ref a) (.lsf ds)
  | ref {l : Nat} {a : Addr} (h : π[l]? = some a) : VR K H π (.ref a) (.ref l)
inductive VRs (K : PySem.W.Frag) (H : Hp) (π : List Addr) : List V → List D → Prop
  | nil : VRs K H π [] []
  | cons {v : V} {vs : List V} {d : D} {ds : List D} (h : VR K H π v d) (r : VRs K H π vs ds) : VRs K H π (v :: vs) (d :: ds)
end
/-- pairs with equal first parts -/
inductive PR {κ : Type} (K : PySem.W.Frag) (H : Hp) (π : List Addr) : List (κ × V) → List (κ × D) → Prop
  | nil : PR K H π [] []
  | cons {k : κ} {v : V} {vs : List (κ × V)} {d : D} {ds : List (κ × D)} (h : VR K H π v d) (r : PR K H π vs ds) : PR K H π ((k, v) :: vs) ((k, d) :: ds)
def OR (K : PySem.W.Frag) (cl : Nat → Addr) (H : Hp) (π : List Addr) : Ob → Addr → Prop
  | .lst ds, a => ∃ xs, H a = some (.lst xs) ∧ VRs K H π xs ds
  | .dic kvs, a => ∃ ws, H a = some (.dK ws) ∧ PR K H π ws kvs
  | .dit kvs, a => ∃ ws, H a = some (.dT ws) ∧ PR K H π ws kvs
  | .obj C fs, a => ∃ dx gs, H a = some (.ins (cl C) dx gs) ∧ PR K H π gs fs
  | .lok kvs, a => ∃ od ws, H a = some (.frz od (.dK ws)) ∧ PR K H π ws kvs
structure SR (K : PySem.W.Frag) (cl : Nat → Addr) (H : Hp) (π : List Addr) (S : Sto) : Prop where
  len : π.length = S.length
  nd : π.Nodup
  at_ : ∀ (l : Nat) (a : Addr) (o : Ob), π[l]? = some a → S[l]? = some o → OR K cl H π o a
/-- later: old places stay, the rest of the heap stays -/
structure Ext (H : Hp) (π : List Addr) (H' : Hp) (π' : List Addr) : Prop where
  pre : ∃ τ, π' = π ++ τ
  kp : ∀ b o, b ∉ π → H b = some o → H' b = some o
  im : ∀ b o, ¬ Mut (some o) → H b = some o → H' b = some o
  dm : ∀ b, H' b = none → H b = none
  fr : ∀ a, a ∈ π' → a ∉ π → H a = none
section
variable {K : PySem.W.Frag} {cl : Nat → Addr} {H H1 H' : Hp} {π π1 π' : List Addr} {S S' : Sto} {a p : Addr} {o : HO}
theorem Ext.refl : Ext H π H π := ⟨⟨[], by simp⟩, fun _ _ _ h => h, fun _ _ _ h => h, fun _ h => h, fun a h n => absurd h n⟩
theorem Ext.get {l : Nat} (e : Ext H π H' π') (h : π[l]? = some a) : π'[l]? = some a := by
  obtain ⟨τ, rfl⟩ := e.pre
  rw [List.getElem?_append_left (List.getElem?_eq_some_iff.mp h).1]; exact h
theorem Ext.trans (e : Ext H π H1 π1) (f : Ext H1 π1 H' π') : Ext H π H' π' where
  pre := by
    obtain ⟨τ, rfl⟩ := e.pre
    obtain ⟨τ', rfl⟩ := f.pre
    exact ⟨τ ++ τ', by rw [List.append_assoc]⟩
  kp := fun b o n h => by
    have h1 := e.kp b o n h
    refine f.kp b o (fun m => ?_) h1
    have := e.fr b m n
    rw [h] at this; cases this
  im := fun b o n h => f.im b o n (e.im b o n h)
  dm := fun b h => e.dm b (f.dm b h)
  fr := fun a m n => by
    by_cases h1 : a ∈ π1
    · exact e.fr a h1 n
    · exact e.dm a (f.fr a m h1)
/-- what values lean on -/
structure Im (H : Hp) (π : List Addr) (H' : Hp) (π' : List Addr) : Prop where
  pre : ∃ τ, π' = π ++ τ
  im : ∀ b o, ¬ Mut (some o) → H b = some o → H' b = some o
theorem Ext.i (e : Ext H π H' π') : Im H π H' π' := ⟨e.pre, e.im⟩
theorem Im.get {l : Nat} (e : Im H π H' π') (h : π[l]? = some a) : π'[l]? = some a := by
  obtain ⟨τ, rfl⟩ := e.pre
  rw [List.getElem?_append_left (List.getElem?_eq_some_iff.mp h).1]; exact h
theorem Im.sqT (e : Im H π H' π') {xs : List V} (h : SqT K H a xs) : SqT K H' a xs := by
  rcases h with (h | ⟨o, h⟩) | h
  · exact .inl (.inl (e.im _ _ (fun z => z) h))
  · exact .inl (.inr ⟨o, e.im _ _ (fun z => z) h⟩)
  · exact .inr h
theorem Im.sqF (e : Im H π H' π') {xs : List V} (h : SqF K H a xs) : SqF K H' a xs := by
  rcases h with ⟨o, h⟩ | h
  · exact .inl ⟨o, e.im _ _ (fun z => z) h⟩
  · exact .inr h
mutual
theorem VR.imm (e : Im H π H' π') : ∀ {v : V} {d : D}, VR K H π v d → VR K H' π' v d
  | _, _, .non => .non
  | _, _, .bl b => .bl b
  | _, _, .int i => .int i
  | _, _, .str s => .str s
  | _, _, .tup h r => .tup (e.im _ _ (fun z => z) h) (VRs.imm e r)
  | _, _, .ktu h r => .ktu (e.sqT h) (VRs.imm e r)
  | _, _, .lsf h r => .lsf (e.sqF h) (VRs.imm e r)
  | _, _, .ref h => .ref (e.get h)
theorem VRs.imm (e : Im H π H' π') : ∀ {vs : List V} {ds : List D}, VRs K H π vs ds → VRs K H' π' vs ds
  | _, _, .nil => .nil
  | _, _, .cons h r => .cons (VR.imm e h) (VRs.imm e r)
end
theorem VR.ext (e : Ext H π H' π') {v : V} {d : D} (h : VR K H π v d) : VR K H' π' v d := h.imm e.i
theorem VRs.ext (e : Ext H π H' π') {v : List V} {d : List D} (h : VRs K H π v d) : VRs K H' π' v d := h.imm e.i
theorem PR.imm {κ : Type} (e : Im H π H' π') {vs : List (κ × V)} {ds : List (κ × D)} (h : PR K H π vs ds) : PR K H' π' vs ds := by
  induction h with
  | nil => exact .nil
  | cons h r ih => exact .cons (h.imm e) ih
theorem PR.ext {κ : Type} (e : Ext H π H' π') {vs : List (κ × V)} {ds : List (κ × D)} (h : PR K H π vs ds) : PR K H' π' vs ds := h.imm e.i
theorem VRs.len : ∀ {vs : List V} {ds : List D}, VRs K H π vs ds → vs.length = ds.length
  | _, _, .nil => rfl
  | _, _, .cons _ r => congrArg Nat.succ r.len
theorem VRs.get : ∀ {vs : List V} {ds : List D} {i : Nat} {d : D}, VRs K H π vs ds → ds[i]? = some d → ∃ v, vs[i]? = some v ∧ VR K H π v d
  | _, _, 0, _, .cons h _, e => ⟨_, rfl, by cases e; exact h⟩
  | _, _, i + 1, _, .cons _ a, e => a.get (i := i) e
  | _, _, _, _, .nil, e => by cases e
theorem VRs.append : ∀ {vs us : List V} {ds es : List D}, VRs K H π vs ds → VRs K H π us es → VRs K H π (vs ++ us) (ds ++ es)
  | _, _, _, _, .nil, b => b
  | _, _, _, _, .cons h a, b => .cons h (a.append b)
theorem VRs.take : ∀ {vs : List V} {ds : List D} (n : Nat), VRs K H π vs ds → VRs K H π (vs.take n) (ds.take n)
  | _, _, 0, _ => .nil
  | _, _, _ + 1, .nil => .nil
  | _, _, n + 1, .cons h a => .cons h (a.take n)
theorem VRs.drop : ∀ {vs : List V} {ds : List D} (n : Nat), VRs K H π vs ds → VRs K H π (vs.drop n) (ds.drop n)
  | _, _, 0, r => r
  | _, _, _ + 1, .nil => .nil
  | _, _, n + 1, .cons _ a => a.drop n
theorem VRs.set {v : V} {d : D} (h : VR K H π v d) : ∀ {vs : List V} {ds : List D} (n : Nat), VRs K H π vs ds → VRs K H π (vs.set n v) (ds.set n d)
  | _, _, _, .nil => .nil
  | _, _, 0, .cons _ a => .cons h a
  | _, _, n + 1, .cons q a => .cons q (VRs.set h n a)
theorem VRs.filterMap {γ : Type} : ∀ {vs : List V} {ds : List D}, VRs K H π vs ds → ∀ js : List Nat, VRs K H π (js.filterMap (vs[·]?)) (js.filterMap (ds[·]?))
  | vs, ds, r, [] => .nil
  | vs, ds, r, j :: js => by
    rw [List.filterMap_cons, List.filterMap_cons]
    cases e : ds[j]? with
    | none =>
      have : vs[j]? = none := by rw [List.getElem?_eq_none_iff] at e ⊢; rw [r.len]; exact e
      rw [this]; exact VRs.filterMap (γ := γ) r js
    | some d =>
      obtain ⟨v, e2, h⟩ := r.get e
      rw [e2]; exact .cons h (VRs.filterMap (γ := γ) r js)
theorem VR.nonI {v : V} (h : VR K H π v .non) : v = .non := by cases h; rfl
theorem VR.blI {v : V} {b : Bool} (h : VR K H π v (.bl b)) : v = .bl b := by cases h; rfl
theorem VR.intI {v : V} {b : Int} (h : VR K H π v (.int b)) : v = .int b := by cases h; rfl
theorem VR.strI {v : V} {b : Str} (h : VR K H π v (.str b)) : v = .str b := by cases h; rfl
theorem VR.tupI {v : V} {ds : List D} (h : VR K H π v (.tup ds)) : ∃ a xs, v = .ref a ∧ H a = some (.tup xs) ∧ VRs K H π xs ds := by cases h with | tup h r => exact ⟨_, _, rfl, h, r⟩
theorem VR.ktuI {v : V} {ds : List D} (h : VR K H π v (.ktu ds)) : ∃ a xs, v = .ref a ∧ SqT K H a xs ∧ VRs K H π xs ds := by cases h with | ktu h r => exact ⟨_, _, rfl, h, r⟩
theorem VR.lsfI {v : V} {ds : List D} (h : VR K H π v (.lsf ds)) : ∃ a xs, v = .ref a ∧ SqF K H a xs ∧ VRs K H π xs ds := by cases h with | lsf h r => exact ⟨_, _, rfl, h, r⟩
theorem VR.refI {v : V} {l : Nat} (h : VR K H π v (.ref l)) : ∃ a, v = .ref a ∧ π[l]? = some a := by cases h with | ref h => exact ⟨_, rfl, h⟩
theorem VRs.nilI {vs : List V} (h : VRs K H π vs []) : vs = [] := by cases h; rfl
theorem VRs.consI {vs : List V} {d : D} {ds : List D} (h : VRs K H π vs (d :: ds)) : ∃ v us, vs = v :: us ∧ VR K H π v d ∧ VRs K H π us ds := by cases h with | cons h r => exact ⟨_, _, rfl, h, r⟩
theorem OR.imm (e : Im H π H' π') {ob : Ob} (hh : H' a = H a) (h : OR K cl H π ob a) : OR K cl H' π' ob a := by
  cases ob with
  | lst ds => obtain ⟨xs, q, r⟩ := h; exact ⟨xs, hh.trans q, r.imm e⟩
  | dic ds => obtain ⟨xs, q, r⟩ := h; exact ⟨xs, hh.trans q, r.imm e⟩
  | dit ds => obtain ⟨xs, q, r⟩ := h; exact ⟨xs, hh.trans q, r.imm e⟩
  | obj C fs => obtain ⟨dx, xs, q, r⟩ := h; exact ⟨dx, xs, hh.trans q, r.imm e⟩
  | lok ds => obtain ⟨od, xs, q, r⟩ := h; exact ⟨od, xs, hh.trans q, r.imm e⟩
theorem OR.ext (e : Ext H π H' π') {ob : Ob} (hh : H' a = H a) (h : OR K cl H π ob a) : OR K cl H' π' ob a := h.imm e.i hh
theorem OR.some {ob : Ob} (h : OR K cl H π ob a) : H a ≠ none := fun e => by
  cases ob with
  | lst ds => obtain ⟨xs, q, r⟩ := h; rw [q] at e; cases e
  | dic ds => obtain ⟨xs, q, r⟩ := h; rw [q] at e; cases e
  | dit ds => obtain ⟨xs, q, r⟩ := h; rw [q] at e; cases e
  | obj C fs => obtain ⟨dx, xs, q, r⟩ := h; rw [q] at e; cases e
  | lok ds => obtain ⟨od, xs, q, r⟩ := h; rw [q] at e; cases e
theorem SR.mem (s : SR K cl H π S) (h : a ∈ π) : ∃ (l : Nat) (ob : Ob), π[l]? = some a ∧ S[l]? = some ob ∧ OR K cl H π ob a := by
  obtain ⟨l, hl⟩ := List.getElem?_of_mem h
  have : l < S.length := by rw [← s.len]; exact (List.getElem?_eq_some_iff.mp hl).1
  exact ⟨l, S[l], hl, List.getElem?_eq_getElem this, s.at_ _ _ _ hl (List.getElem?_eq_getElem this)⟩
theorem SR.there (s : SR K cl H π S) (h : a ∈ π) : H a ≠ none := let ⟨_, _, _, _, q⟩ := s.mem h; q.some
theorem SR.fresh (s : SR K cl H π S) (h : H p = none) : p ∉ π := fun m => s.there m h
theorem SR.get {l : Nat} {ob : Ob} (s : SR K cl H π S) (h : S[l]? = some ob) : ∃ a, π[l]? = some a ∧ OR K cl H π ob a := by
  have : l < π.length := by rw [s.len]; exact (List.getElem?_eq_some_iff.mp h).1
  exact ⟨π[l], List.getElem?_eq_getElem this, s.at_ _ _ _ (List.getElem?_eq_getElem this) h⟩
/-- something new that the store does not hold (a tuple, an own dict) -/
theorem Ext.new (h : H p = none) : Ext H π (upd H p o) π :=
  ⟨⟨[], by simp⟩, fun b u _ e => by rw [upd_ne (ne_of_none e h)]; exact e, fun b u _ e => by rw [upd_ne (ne_of_none e h)]; exact e, fun b e => by
    by_cases q : b = p
    · subst q; exact h
    · rwa [upd_ne q] at e, fun a h n => absurd h n⟩
theorem SR.new (s : SR K cl H π S) (h : H p = none) : SR K cl (upd H p o) π S :=
  ⟨s.len, s.nd, fun l a ob h1 h2 => by
    have q := s.at_ l a ob h1 h2
    exact q.ext (Ext.new h) (upd_ne (fun z => by subst z; exact q.some h))⟩
/-- a new object of the store -/
theorem Ext.push (h : H p = none) : Ext H π (upd H p o) (π ++ [p]) :=
  ⟨⟨[p], rfl⟩, fun b u _ e => by rw [upd_ne (ne_of_none e h)]; exact e, fun b u _ e => by rw [upd_ne (ne_of_none e h)]; exact e, fun b e => by
    by_cases q : b = p
    · subst q; exact h
    · rwa [upd_ne q] at e, fun a m n => by
    rcases List.mem_append.mp m with m | m
    · exact absurd m n
    · rw [List.mem_singleton] at m; rw [m]; exact h⟩
theorem SR.push {ob : Ob} (s : SR K cl H π S) (h : H p = none) (new : OR K cl (upd H p o) (π ++ [p]) ob p) : SR K cl (upd H p o) (π ++ [p]) (S ++ [ob]) where
  len := by rw [List.length_append, List.length_append, s.len]; rfl
  nd := by
    rw [List.nodup_append]
    refine ⟨s.nd, by simp, fun a ha b hb => ?_⟩
    rw [List.mem_singleton] at hb
    subst hb
    exact fun z => s.fresh h (z ▸ ha)
  at_ := fun l a u h1 h2 => by
    by_cases hl : l < π.length
    · rw [List.getElem?_append_left hl] at h1
      rw [List.getElem?_append_left (by rw [← s.len]; exact hl)] at h2
      have q := s.at_ l a u h1 h2
      exact q.ext (Ext.push h) (upd_ne (fun z => by subst z; exact q.some h))
    · rw [List.getElem?_append_right (by omega)] at h1
      rw [List.getElem?_append_right (by rw [← s.len]; omega)] at h2
      rw [← s.len] at h2
      cases e : l - π.length with
      | zero =>
        rw [e] at h1 h2
        cases h1; cases h2; exact new
      | succ n => rw [e] at h1; cases h1
/-- an object of the store is changed -/
theorem Ext.put (m : a ∈ π) (mu : Mut (H a)) : Ext H π (upd H a o) π := by
  refine ⟨⟨[], by simp⟩, fun b u n e => by rw [upd_ne (show b ≠ a from fun z => n (z ▸ m))]; exact e, fun b u n e => ?_, fun b e => ?_, fun b h n => absurd h n⟩
  · rw [upd_ne]
    · exact e
    · rintro rfl
      rw [e] at mu; exact n mu
  · by_cases z : b = a
    · subst z; rw [upd_same] at e; cases e
    · rwa [upd_ne z] at e
theorem SR.put {l : Nat} {ob : Ob} (s : SR K cl H π S) (h : π[l]? = some a) (mu : Mut (H a)) (new : OR K cl (upd H a o) π ob a) : SR K cl (upd H a o) π (S.set l ob) := by
  have hl : l < S.length := by rw [← s.len]; exact (List.getElem?_eq_some_iff.mp h).1
  refine ⟨by rw [List.length_set]; exact s.len, s.nd, fun j b u h1 h2 => ?_⟩
  by_cases e : j = l
  · subst e
    rw [List.getElem?_set_self hl] at h2
    rw [h] at h1
    cases h1; cases h2; exact new
  · rw [List.getElem?_set_ne (fun z => e z.symm)] at h2
    have q := s.at_ j b u h1 h2
    refine q.ext (Ext.put (List.mem_of_getElem? h) mu) (upd_ne (fun z => ?_))
    subst z
    obtain ⟨i1, e1⟩ := List.getElem?_eq_some_iff.mp h1
    obtain ⟨i2, e2⟩ := List.getElem?_eq_some_iff.mp h
    exact e ((List.getElem_inj s.nd).mp (e1.trans e2.symm))
/-- a list that was made on the way is taken into the store -/
theorem SR.adopt {ob : Ob} (s : SR K cl H π S) (n : p ∉ π) (new : OR K cl H (π ++ [p]) ob p) : SR K cl H (π ++ [p]) (S ++ [ob]) where
  len := by rw [List.length_append, List.length_append, s.len]; rfl
  nd := by
    rw [List.nodup_append]
    refine ⟨s.nd, by simp, fun a ha b hb => ?_⟩
    rw [List.mem_singleton] at hb
    subst hb
    exact fun z => n (z ▸ ha)
  at_ := fun l a u h1 h2 => by
    by_cases hl : l < π.length
    · rw [List.getElem?_append_left hl] at h1
      rw [List.getElem?_append_left (by rw [← s.len]; exact hl)] at h2
      exact (s.at_ l a u h1 h2).imm ⟨⟨[p], rfl⟩, fun _ _ _ h => h⟩ rfl
    · rw [List.getElem?_append_right (by omega)] at h1
      rw [List.getElem?_append_right (by rw [← s.len]; omega)] at h2
      rw [← s.len] at h2
      cases e : l - π.length with
      | zero =>
        rw [e] at h1 h2
        cases h1; cases h2; exact new
      | succ n => rw [e] at h1; cases h1
theorem Ext.adopt (e : Ext H π H' π') (h : H p = none) : Ext H π H' (π' ++ [p]) where
  pre := by obtain ⟨τ, rfl⟩ := e.pre; exact ⟨τ ++ [p], by rw [List.append_assoc]⟩
  kp := e.kp
  im := e.im
  dm := e.dm
  fr := fun a m n => by
    rcases List.mem_append.mp m with m | m
    · exact e.fr a m n
    · rw [List.mem_singleton] at m; rw [m]; exact h
end
structure XE where
  a : Addr
  C : Nat
  d : Option Addr
  x : Option (List (Str × D))
def XR (K : PySem.W.Frag) (H : Hp) (π : List Addr) (d : Option Addr) : Option (List (Str × D)) → Prop
  | none => d = none
  | some fs => ∃ dd gs, d = some dd ∧ H dd = some (.xd gs) ∧ PR K H π gs fs
theorem XR.ext {K : PySem.W.Frag} {H H' : Hp} {π π' : List Addr} {d : Option Addr} {x : Option (List (Str × D))} (e : Ext H π H' π') (h : XR K H π d x) : XR K H' π' d x := by
  cases x with
  | none => exact h
  | some fs => obtain ⟨dd, gs, rfl, q, r⟩ := h; exact ⟨dd, gs, rfl, e.im _ _ (fun z => z) q, r.ext e⟩
structure EC where
  K : PySem.W.Frag
  cl : Nat → Addr
  xs : List XE
def SlR (c : EC) (H : Hp) (π : List Addr) (v : V) : Sl → Prop
  | .v d => VR c.K H π v d
  | .x k => ∃ x, c.xs[k]? = some x ∧ v = .ref x.a
structure EnvR (c : EC) (σ : L2.St) (H : Hp) (e : Env) (S : Sto) (π : List Addr) : Prop where
  sr : SR c.K c.cl H π S
  len : σ.length = e.length
  sl : ∀ (i : Nat) (d : Sl), e[i]? = some (some d) → ∃ v, σ[i]? = some (some v) ∧ SlR c H π v d
  xs : ∀ (k : Nat) (x : XE), c.xs[k]? = some x → XR c.K H π x.d x.x
section
variable {c : EC} {σ : L2.St} {H H' : Hp} {e : Env} {S S' : Sto} {π π' : List Addr}
theorem EnvR.ext (h : EnvR c σ H e S π) (x : Ext H π H' π') (s : SR c.K c.cl H' π' S') : EnvR c σ H' e S' π' where
  sr := s
  len := h.len
  sl := fun i d q => by
    obtain ⟨v, h1, h2⟩ := h.sl i d q
    refine ⟨v, h1, ?_⟩
    cases d with
    | v d => exact VR.ext x h2
    | x k => exact h2
  xs := fun k y q => (h.xs k y q).ext x
theorem EnvR.set (h : EnvR c σ H e S π) {i : Nat} {v : V} {d : D} (r : VR c.K H π v d) : EnvR c (σ.set i (some v)) H (e.set i (some (.v d))) S π where
  sr := h.sr
  len := by rw [List.length_set, List.length_set]; exact h.len
  sl := fun j u q => by
    by_cases z : i = j
    · subst z
      by_cases hi : i < e.length
      · rw [List.getElem?_set_self hi] at q
        cases q
        exact ⟨v, by rw [List.getElem?_set_self (by rw [h.len]; exact hi)], r⟩
      · rw [List.getElem?_eq_none_iff.mpr (by rw [List.length_set]; omega)] at q
        cases q
    · rw [List.getElem?_set_ne z] at q
      rw [List.getElem?_set_ne z]
      exact h.sl j u q
  xs := h.xs
theorem EnvR.un (h : EnvR c σ H e S π) {i : Nat} {v : Option V} : EnvR c (σ.set i v) H (e.set i none) S π where
  sr := h.sr
  len := by rw [List.length_set, List.length_set]; exact h.len
  sl := fun j u q => by
    by_cases z : i = j
    · subst z
      by_cases hi : i < e.length
      · rw [List.getElem?_set_self hi] at q; cases q
      · rw [List.getElem?_eq_none_iff.mpr (by rw [List.length_set]; omega)] at q; cases q
    · rw [List.getElem?_set_ne z] at q
      rw [List.getElem?_set_ne z]
      exact h.sl j u q
  xs := h.xs
end
inductive Res (α : Type) where
  | ok (x : α) (S : Sto)
  | er (C : Nat) (x : Option (List (Str × D))) (S : Sto)
  | no
def Res.bind {α β : Type} (r : Res α) (k : α → Sto → Res β) : Res β := match r with
  | .ok x S => k x S
  | .er C x S => .er C x S
  | .no => .no
inductive Out where
  | nx (e : Env) (S : Sto) | rt (d : D) (S : Sto) | bk (e : Env) (S : Sto) | ct (e : Env) (S : Sto)
  | er (C : Nat) (x : Option (List (Str × D))) (e : Env) (S : Sto)
  | no
def Res.st {α : Type} (r : Res α) (e : Env) (k : α → Sto → Out) : Out := match r with
  | .ok x S => k x S
  | .er C x S => .er C x e S
  | .no => .no
/-- the class of an error: below 1000 an own one, otherwise a built-in one, of whose dict nothing is known -/
def bxN (C : Nat) : String := if C = 1000 then "KeyError" else if C = 1001 then "ZeroDivisionError" else "Exception"
def exV (cl : Nat → Addr) (C : Nat) : Value := if C < 1000 then .ref (cl C) else .type (bxN C)
theorem exV_lt {cl : Nat → Addr} {C : Nat} (h : C < 1000) : exV cl C = .ref (cl C) := if_pos h
def Run {α ν : Type} (c : EC) (W : WX) (rel : Hp → List Addr → ν → α → Prop) (σ : L2.St) (H : Hp) (π : List Addr) (r : Res α) (Q : ν → Hp → Prop) : Prop := match r with
  | .ok d S' => ∀ v H' π', Ext H π H' π' → SR c.K c.cl H' π' S' → rel H' π' v d → Q v H'
  | .er C x S' => ∀ H' π' dd, Ext H π H' π' → SR c.K c.cl H' π' S' → (C < 1000 → XR c.K H' π' dd x) → W (exV c.cl C) dd σ H'
  | .no => False
def RunS (c : EC) (W : WX) (H : Hp) (π : List Addr) (o : Out) (D : Ends) : Prop := match o with
  | .nx e S' => ∀ σ' H' π', Ext H π H' π' → EnvR c σ' H' e S' π' → D.nx σ' H'
  | .rt d S' => ∀ v H' π', Ext H π H' π' → SR c.K c.cl H' π' S' → VR c.K H' π' v d → D.rt v H'
  | .bk e S' => ∀ σ' H' π', Ext H π H' π' → EnvR c σ' H' e S' π' → D.bk σ' H'
  | .ct e S' => ∀ σ' H' π', Ext H π H' π' → EnvR c σ' H' e S' π' → D.ct σ' H'
  | .er C x e S' => ∀ σ' H' π' dd, Ext H π H' π' → EnvR c σ' H' e S' π' → (C < 1000 → XR c.K H' π' dd x) → W (exV c.cl C) dd σ' H'
  | .no => False
abbrev rV (c : EC) : Hp → List Addr → V → D → Prop := fun H π v d => VR c.K H π v d
abbrev rVs (c : EC) : Hp → List Addr → List V → List D → Prop := fun H π v d => VRs c.K H π v d
abbrev rEq {α : Type} : Hp → List Addr → α → α → Prop := fun _ _ a b => a = b
abbrev Ex := Env → Sto → Res D
abbrev Ax := Env → Sto → Res (List D)
abbrev Bx := Env → Sto → Res Bool
abbrev Sx := Env → Sto → Out
def EvT (c : EC) (W : WX) (f : Ex) : TE := fun σ H Q => ∃ e S π, EnvR c σ H e S π ∧ Run c W (rV c) σ H π (f e S) Q
def ArT (c : EC) (W : WX) (f : Ax) : TA := fun σ H Q => ∃ e S π, EnvR c σ H e S π ∧ Run c W (rVs c) σ H π (f e S) Q
def TsT (c : EC) (W : WX) (f : Bx) : TT := fun σ H Q => ∃ e S π, EnvR c σ H e S π ∧ Run c W (ν := Bool) rEq σ H π (f e S) Q
def PoT (c : EC) (W : WX) (f : Env → Sto → Res (Option Int)) : TO := fun σ H Q => ∃ e S π, EnvR c σ H e S π ∧ Run c W (ν := Option Int) rEq σ H π (f e S) Q
def StT (c : EC) (W : WX) (g : Sx) : TS := fun D σ H => ∃ e S π, EnvR c σ H e S π ∧ RunS c W H π (g e S) D
section
variable {α β ν μ : Type} {c : EC} {W : WX} {rel : Hp → List Addr → ν → α → Prop} {rel' : Hp → List Addr → μ → β → Prop} {σ : L2.St} {H H' : Hp} {e : Env} {S S' : Sto} {π π' : List Addr}
theorem Run.ext {r : Res α} {Q : ν → Hp → Prop} (h : Run c W rel σ H π r Q) (x : Ext H π H' π') : Run c W rel σ H' π' r Q := by
  cases r with
  | ok d S' => exact fun v H2 π2 e s q => h v H2 π2 (x.trans e) s q
  | er C y S' => exact fun H2 π2 dd e s q => h H2 π2 dd (x.trans e) s q
  | no => exact h
theorem Run.mono {r : Res α} {Q Q' : ν → Hp → Prop} (h : Run c W rel σ H π r Q) (k : ∀ v H', Q v H' → Q' v H') : Run c W rel σ H π r Q' := by
  cases r with
  | ok d S' => exact fun v H2 π2 e s q => k _ _ (h v H2 π2 e s q)
  | er C y S' => exact h
  | no => exact h
theorem RunS.ext {o : Out} {D : Ends} (h : RunS c W H π o D) (x : Ext H π H' π') : RunS c W H' π' o D := by
  cases o with
  | nx e S' => exact fun σ H2 π2 e s => h σ H2 π2 (x.trans e) s
  | rt e S' => exact fun σ H2 π2 e s q => h σ H2 π2 (x.trans e) s q
  | bk e S' => exact fun σ H2 π2 e s => h σ H2 π2 (x.trans e) s
  | ct e S' => exact fun σ H2 π2 e s => h σ H2 π2 (x.trans e) s
  | er C y e S' => exact fun σ H2 π2 dd e s q => h σ H2 π2 dd (x.trans e) s q
  | no => exact h
theorem run_bind {r : Res α} {k : α → Sto → Res β} {Q : μ → Hp → Prop} (h : Run c W rel' σ H π (r.bind k) Q) :
    Run c W rel σ H π r fun v H' => ∃ d S' π', Ext H π H' π' ∧ SR c.K c.cl H' π' S' ∧ rel H' π' v d ∧ Run c W rel' σ H' π' (k d S') Q := by
  cases r with
  | ok d S' => exact fun v H2 π2 e s q => ⟨d, S', π2, e, s, q, Run.ext h e⟩
  | er C y S' => exact h
  | no => exact h
theorem run_st {r : Res α} {k : α → Sto → Out} {D : Ends} (ev : EnvR c σ H e S π) (h : RunS c W H π (r.st e k) D) :
    Run c W rel σ H π r fun v H' => ∃ d S' π', Ext H π H' π' ∧ SR c.K c.cl H' π' S' ∧ rel H' π' v d ∧ RunS c W H' π' (k d S') D := by
  cases r with
  | ok d S' => exact fun v H2 π2 e s q => ⟨d, S', π2, e, s, q, RunS.ext h e⟩
  | er C y S' => exact fun H2 π2 dd x s q => h σ H2 π2 dd x (ev.ext x s) q
  | no => exact h
theorem run_ok {d : α} {Q : ν → Hp → Prop} {v : ν} (s : SR c.K c.cl H π S) (r : rel H π v d) (h : Run c W rel σ H π (.ok d S) Q) : Q v H := h v H π Ext.refl s r
end
theorem _root_.L2.PE.weak {X : Cx} {e : Expr} {t u : TE} (h : PE X e t) (k : ∀ σ H Q, u σ H Q → t σ H Q) : PE X e u := ⟨fun pins s σ H Q I q => h.run pins s σ H Q I (k σ H Q q)⟩
theorem _root_.L2.PT.weak {X : Cx} {e : Expr} {t u : TT} (h : PT X e t) (k : ∀ σ H Q, u σ H Q → t σ H Q) : PT X e u := ⟨fun pins s σ H Q I q => h.run pins s σ H Q I (k σ H Q q)⟩
theorem _root_.L2.PW.weak {X : Cx} {e : Expr} {t u : TT} (h : PW X e t) (k : ∀ σ H Q, u σ H Q → t σ H Q) : PW X e u := ⟨fun w pins s σ H Q I q => h.run w pins s σ H Q I (k σ H Q q)⟩
theorem _root_.L2.PA.weak {X : Cx} {e : List Expr} {t u : TA} (h : PA X e t) (k : ∀ σ H Q, u σ H Q → t σ H Q) : PA X e u := ⟨fun p pins s σ H Q I q => h.run p pins s σ H Q I (k σ H Q q)⟩
theorem _root_.L2.PO.weak {X : Cx} {e : Option Expr} {t u : TO} (h : PO X e t) (k : ∀ σ H Q, u σ H Q → t σ H Q) : PO X e u := ⟨fun pins s σ H Q I q => h.run pins s σ H Q I (k σ H Q q)⟩
theorem _root_.L2.PS.weak {X : Cx} {e : Stmt} {t u : TS} (h : PS X e t) (k : ∀ D σ H, u D σ H → t D σ H) : PS X e u := ⟨fun pins s σ H D I q => h.run pins s σ H D I (k D σ H q)⟩
theorem _root_.L2.PSs.weak {X : Cx} {e : List Stmt} {t u : TS} (h : PSs X e t) (k : ∀ D σ H, u D σ H → t D σ H) : PSs X e u := ⟨fun pins s σ H D I q => h.run pins s σ H D I (k D σ H q)⟩
end Pu
namespace Pu
open L2 PySem PySem.Spec PyProof.Rows Lb
def eV (i : Nat) : Ex := fun e S => match e[i]? with | some (some (.v d)) => .ok d S | _ => .no
def eC (d : D) : Ex := fun _ S => .ok d S
def eU (F : D → Sto → Res D) (a : Ex) : Ex := fun e S => (a e S).bind F
def eB (F : D → D → Sto → Res D) (a b : Ex) : Ex := fun e S => (a e S).bind fun x S1 => (b e S1).bind fun y S2 => F x y S2
def asB (r : Res D) : Res Bool := r.bind fun d S => match d with | .bl b => .ok b S | _ => .no
def bE (a : Ex) : Bx := fun e S => asB (a e S)
def eChain (F G : D → D → Sto → Res D) (a b c : Ex) : Ex := fun e S => (a e S).bind fun x S1 => (b e S1).bind fun y S2 => (asB (F x y S2)).bind fun k S3 => if k = true then (c e S3).bind fun z S4 => G y z S4 else .ok (.bl false) S3
def bNot (a : Bx) : Bx := fun e S => (a e S).bind fun k S1 => .ok (!k) S1
def bAnd (a b : Bx) : Bx := fun e S => (a e S).bind fun k S1 => if k = true then b e S1 else .ok false S1
def bOr (a b : Bx) : Bx := fun e S => (a e S).bind fun k S1 => if k = true then .ok true S1 else b e S1
def eAnd (a b : Ex) : Ex := fun e S => (asB (a e S)).bind fun k S1 => if k = true then b e S1 else .ok (.bl false) S1
def eOr (a b : Ex) : Ex := fun e S => (asB (a e S)).bind fun k S1 => if k = true then .ok (.bl true) S1 else b e S1
def eNot (a : Ex) : Ex := fun e S => (asB (a e S)).bind fun k S1 => .ok (.bl (!k)) S1
def eIf (t : Bx) (a b : Ex) : Ex := fun e S => (t e S).bind fun k S1 => if k = true then a e S1 else b e S1
def aN : Ax := fun _ S => .ok [] S
def aC (a : Ex) (r : Ax) : Ax := fun e S => (a e S).bind fun x S1 => (r e S1).bind fun xs S2 => .ok (x :: xs) S2
def eK (F : List D → Sto → Res D) (a : Ax) : Ex := fun e S => (a e S).bind F
def mkT (ds : List D) (S : Sto) : Res D := if ds.length ≤ 100000 then .ok (.tup ds) S else .no
def mkL (ds : List D) (S : Sto) : Res D := if ds.length ≤ 100000 then .ok (.ref S.length) (S ++ [.lst ds]) else .no
def lkF (f : Str) : List (Str × D) → Option D
  | [] => none
  | p :: fs => if f = p.1 then some p.2 else lkF f fs
def fldD (cs : List Nat) (f : Str) (x : D) (S : Sto) : Res D := match x with
  | .ref l => match S[l]? with
    | some (.obj C fs) => if C ∈ cs then (match lkF f fs with | some d => .ok d S | none => .no) else .no
    | _ => .no
  | _ => .no
abbrev OpS (c : EC) (r : R2) (F : D → D → Sto → Res D) : Prop := ∀ {W : WX} {σ : L2.St} {H : Hp} {π : List Addr} {S : Sto} {x y : V} {dx dy : D} {Q : VK}, SR c.K c.cl H π S → VR c.K H π x dx → VR c.K H π y dy → Run c W (rV c) σ H π (F dx dy S) Q → r x y H Q
abbrev UnS (c : EC) (r : V → Hp → VK → Prop) (F : D → Sto → Res D) : Prop := ∀ {W : WX} {σ : L2.St} {H : Hp} {π : List Addr} {S : Sto} {x : V} {dx : D} {Q : VK}, SR c.K c.cl H π S → VR c.K H π x dx → Run c W (rV c) σ H π (F dx S) Q → r x H Q
abbrev CaS (c : EC) (r : List V → Hp → VK → Prop) (F : List D → Sto → Res D) : Prop := ∀ {W : WX} {σ : L2.St} {H : Hp} {π : List Addr} {S : Sto} {x : List V} {dx : List D} {Q : VK}, SR c.K c.cl H π S → VRs c.K H π x dx → Run c W (rV c) σ H π (F dx S) Q → r x H Q
section
variable {X : Cx} {c : EC} {W : WX} {ex : Expr} {exs : List Expr} {fa fb fc : Ex} {ta tb : Bx} {aa : Ax} {r r' : R2} {F G : D → D → Sto → Res D}
theorem ev_v {i : Nat} (h : PE X ex (tVar i)) : PE X ex (EvT c W (eV i)) := h.weak fun σ H Q ⟨e, S, π, ev, q⟩ => by
  unfold eV at q
  split at q
  · rename_i d h1
    obtain ⟨v, hv, rv⟩ := ev.sl i (.v d) h1
    exact ⟨v, hv, q v H π Ext.refl ev.sr rv⟩
  · exact q.elim
theorem ev_c {v : V} {d : D} (h : PE X ex (tC v)) (r : ∀ H π, VR c.K H π v d) : PE X ex (EvT c W (eC d)) := h.weak fun σ H Q ⟨e, S, π, ev, q⟩ => run_ok (rel := rV c) ev.sr (r H π) q
theorem ev_non (h : PE X ex (tC .non)) : PE X ex (EvT c W (eC .non)) := ev_c h fun _ _ => .non
theorem ev_bl {b : Bool} (h : PE X ex (tC (.bl b))) : PE X ex (EvT c W (eC (.bl b))) := ev_c h fun _ _ => .bl _
theorem ev_int {b : Int} (h : PE X ex (tC (.int b))) : PE X ex (EvT c W (eC (.int b))) := ev_c h fun _ _ => .int _
theorem ev_str {b : Str} (h : PE X ex (tC (.str b))) : PE X ex (EvT c W (eC (.str b))) := ev_c h fun _ _ => .str _
theorem tOp_b (hr : OpS c r F) {σ : L2.St} {H : Hp} {Q : VK} (q : EvT c W (eB F fa fb) σ H Q) : tOp r (EvT c W fa) (EvT c W fb) σ H Q := by
  obtain ⟨e, S, π, ev, q⟩ := q
  refine ⟨e, S, π, ev, (run_bind (rel := rV c) q).mono fun x H1 ⟨dx, S1, π1, e1, s1, rx, q1⟩ => ?_⟩
  refine ⟨e, S1, π1, ev.ext e1 s1, (run_bind (rel := rV c) q1).mono fun y H2 ⟨dy, S2, π2, e2, s2, ry, q2⟩ => ?_⟩
  exact hr s2 (rx.ext e2) ry q2
theorem ev_b (h : PE X ex (tOp r (EvT c W fa) (EvT c W fb))) (hr : OpS c r F) : PE X ex (EvT c W (eB F fa fb)) := h.weak fun σ H Q q => tOp_b hr q
theorem ev_u {r : V → Hp → VK → Prop} {F : D → Sto → Res D} (h : PE X ex (tUn r (EvT c W fa))) (hr : UnS c r F) : PE X ex (EvT c W (eU F fa)) := h.weak fun σ H Q ⟨e, S, π, ev, q⟩ =>
  ⟨e, S, π, ev, (run_bind (rel := rV c) q).mono fun x H1 ⟨dx, S1, π1, e1, s1, rx, q1⟩ => hr s1 rx q1⟩
theorem run_asB {σ : L2.St} {H : Hp} {π : List Addr} {r : Res D} {Q : Bool → Hp → Prop} (q : Run c W (ν := Bool) rEq σ H π (asB r) Q) : Run c W (rV c) σ H π r fun x H' => ∃ k, x = .bl k ∧ Q k H' :=
  (run_bind (rel := rV c) q).mono fun x H1 ⟨dx, S1, π1, e1, s1, rx, q1⟩ => by
    cases dx <;> first | exact q1.elim | skip
    rename_i b
    exact ⟨b, rx.blI, q1 b H1 π1 Ext.refl s1 rfl⟩
theorem tTest_e {te : TE} {σ : L2.St} {H : Hp} {Q : Bool → Hp → Prop} (hk : ∀ Q', EvT c W fa σ H Q' → te σ H Q') (q : TsT c W (bE fa) σ H Q) : te σ H fun x H' => ∃ k, x = .bl k ∧ Q k H' := by
  obtain ⟨e, S, π, ev, q⟩ := q
  exact hk _ ⟨e, S, π, ev, run_asB q⟩
theorem ts_e (h : PT X ex (tB (EvT c W fa))) : PT X ex (TsT c W (bE fa)) := h.weak fun σ H Q q => tTest_e (fun _ z => z) q
theorem ts_b (h : PT X ex (tTest (tOp r (EvT c W fa) (EvT c W fb)))) (hr : OpS c r F) : PT X ex (TsT c W (bE (eB F fa fb))) := h.weak fun σ H Q q => tTest_e (fun _ z => tOp_b hr z) q
theorem ts_not (h : PT X ex (tNot (TsT c W ta))) : PT X ex (TsT c W (bNot ta)) := h.weak fun σ H Q ⟨e, S, π, ev, q⟩ =>
  ⟨e, S, π, ev, (run_bind (rel := rEq) q).mono fun k H1 ⟨b, S1, π1, e1, s1, rb, q1⟩ => by subst rb; exact run_ok (rel := rEq) s1 rfl q1⟩
theorem tw_and (h : PW X ex (tAnd (TsT c W ta) (TsT c W tb))) : PW X ex (TsT c W (bAnd ta tb)) := h.weak fun σ H Q ⟨e, S, π, ev, q⟩ =>
  ⟨e, S, π, ev, (run_bind (rel := rEq) q).mono fun k H1 ⟨b, S1, π1, e1, s1, rb, q1⟩ => by
    subst rb
    by_cases hk : k = true
    · rw [if_pos hk] at q1 ⊢; exact ⟨e, S1, π1, ev.ext e1 s1, q1⟩
    · rw [if_neg hk] at q1 ⊢; exact run_ok (rel := rEq) s1 rfl q1⟩
theorem tw_or (h : PW X ex (tOr (TsT c W ta) (TsT c W tb))) : PW X ex (TsT c W (bOr ta tb)) := h.weak fun σ H Q ⟨e, S, π, ev, q⟩ =>
  ⟨e, S, π, ev, (run_bind (rel := rEq) q).mono fun k H1 ⟨b, S1, π1, e1, s1, rb, q1⟩ => by
    subst rb
    by_cases hk : k = true
    · rw [if_pos hk] at q1 ⊢; exact run_ok (rel := rEq) s1 rfl q1
    · rw [if_neg hk] at q1 ⊢; exact ⟨e, S1, π1, ev.ext e1 s1, q1⟩⟩
theorem ev_and (h : PE X ex (tAndV (EvT c W fa) (EvT c W fb))) : PE X ex (EvT c W (eAnd fa fb)) := h.weak fun σ H Q ⟨e, S, π, ev, q⟩ =>
  ⟨e, S, π, ev, run_asB ((run_bind (rel := rEq) q).mono fun k H1 z => z) |>.mono fun x H1 ⟨k, ez, b, S1, π1, e1, s1, rb, q1⟩ => ⟨k, ez, by
    subst rb
    by_cases hk : k = true
    · rw [if_pos hk] at q1 ⊢; exact ⟨e, S1, π1, ev.ext e1 s1, q1⟩
    · rw [if_neg hk] at q1 ⊢; exact run_ok (rel := rV c) s1 (.bl false) q1⟩⟩
theorem ev_or (h : PE X ex (tOrV (EvT c W fa) (EvT c W fb))) : PE X ex (EvT c W (eOr fa fb)) := h.weak fun σ H Q ⟨e, S, π, ev, q⟩ =>
  ⟨e, S, π, ev, run_asB ((run_bind (rel := rEq) q).mono fun k H1 z => z) |>.mono fun x H1 ⟨k, ez, b, S1, π1, e1, s1, rb, q1⟩ => ⟨k, ez, by
    subst rb
    by_cases hk : k = true
    · rw [if_pos hk] at q1 ⊢; exact run_ok (rel := rV c) s1 (.bl true) q1
    · rw [if_neg hk] at q1 ⊢; exact ⟨e, S1, π1, ev.ext e1 s1, q1⟩⟩⟩
theorem ev_not (h : PE X ex (tNotV (EvT c W fa))) : PE X ex (EvT c W (eNot fa)) := h.weak fun σ H Q ⟨e, S, π, ev, q⟩ =>
  ⟨e, S, π, ev, run_asB ((run_bind (rel := rEq) q).mono fun k H1 z => z) |>.mono fun x H1 ⟨k, ez, b, S1, π1, e1, s1, rb, q1⟩ => ⟨k, ez, by
    subst rb; exact run_ok (rel := rV c) s1 (.bl _) q1⟩⟩
theorem ev_if (h : PE X ex (tIf (TsT c W ta) (EvT c W fa) (EvT c W fb))) : PE X ex (EvT c W (eIf ta fa fb)) := h.weak fun σ H Q ⟨e, S, π, ev, q⟩ =>
  ⟨e, S, π, ev, (run_bind (rel := rEq) q).mono fun k H1 ⟨b, S1, π1, e1, s1, rb, q1⟩ => by
    subst rb
    by_cases hk : k = true
    · rw [if_pos hk] at q1 ⊢; exact ⟨e, S1, π1, ev.ext e1 s1, q1⟩
    · rw [if_neg hk] at q1 ⊢; exact ⟨e, S1, π1, ev.ext e1 s1, q1⟩⟩
theorem ar_nil (h : PA X exs tNil) : PA X exs (ArT c W aN) := h.weak fun σ H Q ⟨e, S, π, ev, q⟩ => run_ok (rel := rVs c) ev.sr .nil q
theorem ar_cons (h : PA X exs (tCons (EvT c W fa) (ArT c W aa))) : PA X exs (ArT c W (aC fa aa)) := h.weak fun σ H Q ⟨e, S, π, ev, q⟩ =>
  ⟨e, S, π, ev, (run_bind (rel := rV c) q).mono fun x H1 ⟨dx, S1, π1, e1, s1, rx, q1⟩ =>
    ⟨e, S1, π1, ev.ext e1 s1, (run_bind (rel := rVs c) q1).mono fun xs H2 ⟨ds, S2, π2, e2, s2, rs, q2⟩ => run_ok (rel := rVs c) s2 (.cons (rx.ext e2) rs) q2⟩⟩
theorem lim_size {n : Nat} (h : n ≤ 100000) : n ≤ sizeLine := Nat.le_trans h (by rw [sizeLine_eq]; decide)
theorem ev_tup (h : PE X ex (tTup (ArT c W aa))) : PE X ex (EvT c W (eK mkT aa)) := h.weak fun σ H Q ⟨e, S, π, ev, q⟩ =>
  ⟨e, S, π, ev, (run_bind (rel := rVs c) q).mono fun xs H1 ⟨ds, S1, π1, e1, s1, rs, q1⟩ => by
    unfold mkT at q1
    split at q1
    · rename_i hl
      exact ⟨lim_size (by rw [rs.len]; exact hl), fun p hp => q1 _ _ π1 (Ext.new hp) (s1.new hp) (.tup upd_same (rs.ext (Ext.new hp)))⟩
    · exact q1.elim⟩
theorem mk_lst {σ : L2.St} {H : Hp} {π : List Addr} {S : Sto} {xs : List V} {ds : List D} {Q : VK} {p : Addr} (s : SR c.K c.cl H π S) (rs : VRs c.K H π xs ds) (hp : H p = none)
    (q : Run c W (rV c) σ H π (.ok (.ref S.length) (S ++ [.lst ds])) Q) : Q (.ref p) (upd H p (.lst xs)) :=
  q _ _ (π ++ [p]) (Ext.push hp) (s.push hp ⟨xs, upd_same, rs.ext (Ext.push hp)⟩) (.ref (by rw [← s.len]; simp))
theorem ev_lst (h : PE X ex (tLst (ArT c W aa))) : PE X ex (EvT c W (eK mkL aa)) := h.weak fun σ H Q ⟨e, S, π, ev, q⟩ =>
  ⟨e, S, π, ev, (run_bind (rel := rVs c) q).mono fun xs H1 ⟨ds, S1, π1, e1, s1, rs, q1⟩ => by
    unfold mkL at q1
    split at q1
    · rename_i hl
      exact ⟨lim_size (by rw [rs.len]; exact hl), fun p hp => mk_lst s1 rs hp q1⟩
    · exact q1.elim⟩
theorem ev_k {r : List V → Hp → VK → Prop} {F : List D → Sto → Res D} (h : PE X ex (tCB r (ArT c W aa))) (hr : CaS c r F) : PE X ex (EvT c W (eK F aa)) := h.weak fun σ H Q ⟨e, S, π, ev, q⟩ =>
  ⟨e, S, π, ev, (run_bind (rel := rVs c) q).mono fun xs H1 ⟨ds, S1, π1, e1, s1, rs, q1⟩ => hr s1 rs q1⟩
theorem pr_lookup {K : PySem.W.Frag} {H : Hp} {π : List Addr} {f : Str} : ∀ {gs : List (Str × V)} {fs : List (Str × D)}, PR K H π gs fs → (∀ d, lkF f fs = some d → ∃ v, gs.lookup f = some v ∧ VR K H π v d) ∧ (lkF f fs = none → gs.lookup f = none) := by
  intro gs fs h
  induction h with
  | nil => exact ⟨(fun d e => (nomatch e)), fun _ => rfl⟩
  | @cons k v vs d ds h r ih =>
    by_cases e : f = k
    · have b : (f == k) = true := by simpa using e
      exact ⟨fun d' q => ⟨v, by simp only [List.lookup, b], by rw [lkF, if_pos e] at q; cases q; exact h⟩, fun q => by rw [lkF, if_pos e] at q; cases q⟩
    · have b : (f == k) = false := by simpa using e
      refine ⟨fun d' q => ?_, fun q => ?_⟩
      · rw [lkF, if_neg e] at q
        obtain ⟨v', q1, q2⟩ := ih.1 d' q
        exact ⟨v', by simp only [List.lookup, b]; exact q1, q2⟩
      · rw [lkF, if_neg e] at q
        simp only [List.lookup, b]; exact ih.2 q
theorem ev_fld {K : PySem.W.Frag} {f : Str} {cs : List Nat} (h : PE X ex (tFld K (EvT c W fa) f)) (hK : K = c.K) (hc : ∀ C ∈ cs, Cls c.K (c.cl C) ∧ NoAttr c.K (c.cl C) f) : PE X ex (EvT c W (eU (fldD cs f) fa)) := h.weak fun σ H Q ⟨e, S, π, ev, q⟩ =>
  ⟨e, S, π, ev, (run_bind (rel := rV c) q).mono fun x H1 ⟨dx, S1, π1, e1, s1, rx, q1⟩ => by
    unfold fldD at q1
    split at q1
    · rename_i l
      obtain ⟨a, rfl, hl⟩ := rx.refI
      split at q1
      · rename_i C fs hS
        split at q1
        · rename_i hC
          obtain ⟨dx, gs, h1, h2⟩ := s1.at_ l a _ hl hS
          split at q1
          · rename_i d hd
            obtain ⟨v, h3, h4⟩ := (pr_lookup h2).1 d hd
            obtain ⟨k1, k2⟩ := hc C hC
            exact ⟨a, _, dx, gs, v, rfl, h1, by rw [hK]; exact k1, by rw [hK]; exact k2, h3, run_ok (rel := rV c) s1 h4 q1⟩
          · exact q1.elim
        · exact q1.elim
      · exact q1.elim
    · exact q1.elim⟩
end
end Pu
namespace Pu
open L2 PySem PySem.Spec PyProof.Rows Lb
def big : Nat := 10 ^ 300
theorem big_log {i : Int} (h : i.natAbs < big) : i.natAbs.log2 < 1000 := PySem.Flt.log2_lt_of (by decide) (Nat.lt_trans h (by unfold big; decide))
theorem big_mul {i j : Int} (h : i.natAbs < big) (h' : j.natAbs < big) : CMulW i j := by
  have := big_log h
  have := big_log h'
  unfold CMulW; omega
def dAdd (x y : D) (S : Sto) : Res D := match x, y with
  | .int a, .int b => .ok (.int (a + b)) S
  | .str a, .str b => if a.length + b.length ≤ 100000 then .ok (.str (a ++ b)) S else .no
  | .tup a, .tup b => if a.length + b.length ≤ 100000 then .ok (.tup (a ++ b)) S else .no
  | .ref a, .ref b => match S[a]?, S[b]? with
    | some (.lst xs), some (.lst ys) => if xs.length + ys.length ≤ 100000 then .ok (.ref S.length) (S ++ [.lst (xs ++ ys)]) else .no
    | _, _ => .no
  | _, _ => .no
def dSub (x y : D) (S : Sto) : Res D := match x, y with
  | .int a, .int b => .ok (.int (a - b)) S
  | _, _ => .no
def dMul (x y : D) (S : Sto) : Res D := match x, y with
  | .int a, .int b => if a.natAbs < big ∧ b.natAbs < big then .ok (.int (a * b)) S else .no
  | .ref l, .int k => match S[l]? with
    | some (.lst xs) => if (-100000 ≤ k ∧ k ≤ 100000) ∧ xs.length * k.toNat ≤ 100000 then .ok (.ref S.length) (S ++ [.lst (List.replicate k.toNat xs).flatten]) else .no
    | _ => .no
  | _, _ => .no
def dFdiv (x y : D) (S : Sto) : Res D := match x, y with
  | .int a, .int b => if b ≠ 0 ∧ b.natAbs < big then .ok (.int (a.fdiv b)) S else .no
  | _, _ => .no
def dMod (x y : D) (S : Sto) : Res D := match x, y with
  | .int a, .int b => if b ≠ 0 then .ok (.int (a.fmod b)) S else .no
  | _, _ => .no
def dPow (x y : D) (S : Sto) : Res D := match x, y with
  | .int a, .int b => if 0 ≤ b ∧ b ≤ 1000 ∧ a.natAbs < 2 ^ 64 then .ok (.int (a ^ b.toNat)) S else .no
  | _, _ => .no
def dBand (x y : D) (S : Sto) : Res D := match x, y with
  | .int a, .int b => .ok (.int (Builtin.bitAnd a b)) S
  | _, _ => .no
def dShr (x y : D) (S : Sto) : Res D := match x, y with
  | .int a, .int b => if 0 ≤ b then .ok (.int (a / 2 ^ b.toNat)) S else .no
  | _, _ => .no
def dNeg (x : D) (S : Sto) : Res D := match x with
  | .int a => .ok (.int (-a)) S
  | _ => .no
def rAddP (K : PySem.W.Frag) : R2 := fun x y H Q => Lb.rAdd x y H Q ∨ rAddS x y H Q ∨ rCat x y H Q ∨ rCatA K x y H Q
section
variable {c : EC} {X : Cx} {K : PySem.W.Frag}
theorem op_addP (h : X.K = K) : OpR X (binaryOp .Add) (rAddP K) := h ▸ op_add.or (op_add_str.or (op_cat.or op_catA))
theorem os_add (hK : K = c.K) : OpS c (rAddP K) dAdd := by
  intro W σ H π S x y dx dy Q s rx ry q
  unfold dAdd at q
  split at q
  · rw [rx.intI, ry.intI]; exact .inl ⟨_, _, rfl, rfl, q _ _ _ Ext.refl s (.int _)⟩
  · split at q
    · rename_i hl; rw [rx.strI, ry.strI]; exact .inr (.inl ⟨_, _, rfl, rfl, lim_size hl, q _ _ _ Ext.refl s (.str _)⟩)
    · exact q.elim
  · split at q
    · rename_i hl
      obtain ⟨a, xs, rfl, h1, h2⟩ := rx.tupI
      obtain ⟨b, ys, rfl, h3, h4⟩ := ry.tupI
      subst hK
      refine .inr (.inr (.inr ⟨a, b, xs, ys, rfl, rfl, SqT.of h1, SqT.of h3, lim_size (by rw [h2.len, h4.len]; exact hl), fun e => ?_, fun _ e => ?_, fun _ _ p hp => ?_⟩))
      · subst e
        refine q _ _ _ Ext.refl s (.tup h3 ?_)
        have := h2.append h4
        exact this
      · subst e
        refine q _ _ _ Ext.refl s (.tup h1 ?_)
        have := h2.append h4
        rwa [List.append_nil] at this
      · exact q _ _ _ (Ext.new hp) (s.new hp) (.tup upd_same ((h2.append h4).ext (Ext.new hp)))
    · exact q.elim
  · split at q
    · rename_i l m xs ys h1 h2
      split at q
      · rename_i hl
        obtain ⟨a, rfl, ha⟩ := rx.refI
        obtain ⟨b, rfl, hb⟩ := ry.refI
        obtain ⟨vs, h3, h4⟩ := s.at_ _ _ _ ha h1
        obtain ⟨us, h5, h6⟩ := s.at_ _ _ _ hb h2
        exact .inr (.inr (.inl ⟨a, b, vs, us, rfl, rfl, h3, h5, lim_size (by rw [h4.len, h6.len]; exact hl), fun p hp => mk_lst s (h4.append h6) hp q⟩))
      · exact q.elim
    · exact q.elim
  · exact q.elim
theorem os_sub : OpS c Lb.rSub dSub := by
  intro W σ H π S x y dx dy Q s rx ry q
  unfold dSub at q
  split at q
  · rw [rx.intI, ry.intI]; exact ⟨_, _, rfl, rfl, q _ _ _ Ext.refl s (.int _)⟩
  · exact q.elim
theorem vrs_rep {K : PySem.W.Frag} {H : Hp} {π : List Addr} {xs : List V} {ds : List D} (h : VRs K H π xs ds) : ∀ n : Nat, VRs K H π (List.replicate n xs).flatten (List.replicate n ds).flatten
  | 0 => .nil
  | n + 1 => by rw [List.replicate_succ, List.replicate_succ, List.flatten_cons, List.flatten_cons]; exact h.append (vrs_rep h n)
theorem os_mul : OpS c rMulA dMul := by
  intro W σ H π S x y dx dy Q s rx ry q
  unfold dMul at q
  split at q
  · split at q
    · rename_i h; rw [rx.intI, ry.intI]; exact .inl ⟨_, _, rfl, rfl, big_mul h.1 h.2, q _ _ _ Ext.refl s (.int _)⟩
    · exact q.elim
  · rename_i l k
    split at q
    · rename_i xs h1
      split at q
      · rename_i hk
        obtain ⟨a, rfl, ha⟩ := rx.refI
        obtain ⟨vs, h3, h4⟩ := s.at_ _ _ _ ha h1
        rw [ry.intI]
        refine .inr ⟨a, k, vs, rfl, rfl, h3, by omega, by omega, lim_size (by rw [h4.len]; exact hk.2), fun p hp => ?_⟩
        exact mk_lst s (vrs_rep h4 _) hp q
      · exact q.elim
    · exact q.elim
  · exact q.elim
theorem os_fdiv : OpS c rDivZ dFdiv := by
  intro W σ H π S x y dx dy Q s rx ry q
  unfold dFdiv at q
  split at q
  · split at q
    · rename_i h; rw [rx.intI, ry.intI]; exact ⟨_, _, rfl, rfl, ⟨h.1, Nat.lt_trans (big_log h.2) (by decide)⟩, q _ _ _ Ext.refl s (.int _)⟩
    · exact q.elim
  · exact q.elim
theorem os_mod : OpS c rModZ dMod := by
  intro W σ H π S x y dx dy Q s rx ry q
  unfold dMod at q
  split at q
  · split at q
    · rename_i h; rw [rx.intI, ry.intI]; exact ⟨_, _, rfl, rfl, h, q _ _ _ Ext.refl s (.int _)⟩
    · exact q.elim
  · exact q.elim
theorem os_pow : OpS c rPow dPow := by
  intro W σ H π S x y dx dy Q s rx ry q
  unfold dPow at q
  split at q
  · split at q
    · rename_i h; rw [rx.intI, ry.intI]; exact ⟨_, _, rfl, rfl, ⟨h.1, by omega, h.2.2⟩, q _ _ _ Ext.refl s (.int _)⟩
    · exact q.elim
  · exact q.elim
theorem os_band : OpS c (rI0 fun i j => .int (Builtin.bitAnd i j)) dBand := by
  intro W σ H π S x y dx dy Q s rx ry q
  unfold dBand at q
  split at q
  · rw [rx.intI, ry.intI]; exact ⟨_, _, rfl, rfl, q _ _ _ Ext.refl s (.int _)⟩
  · exact q.elim
theorem os_shr : OpS c (rI (fun _ j => 0 ≤ j) fun i j => .int (i / 2 ^ j.toNat)) dShr := by
  intro W σ H π S x y dx dy Q s rx ry q
  unfold dShr at q
  split at q
  · split at q
    · rename_i h; rw [rx.intI, ry.intI]; exact ⟨_, _, rfl, rfl, h, q _ _ _ Ext.refl s (.int _)⟩
    · exact q.elim
  · exact q.elim
theorem us_neg : UnS c uNeg dNeg := by
  intro W σ H π S x dx Q s rx q
  unfold dNeg at q
  split at q
  · rw [rx.intI]; exact ⟨_, rfl, q _ _ _ Ext.refl s (.int _)⟩
  · exact q.elim
end
def dLt (x y : D) (S : Sto) : Res D := match x, y with
  | .int a, .int b => .ok (.bl (decide (a < b))) S
  | .str a, .str b => .ok (.bl (decide (a.cps.toList < b.cps.toList))) S
  | _, _ => .no
def dLe (x y : D) (S : Sto) : Res D := match x, y with
  | .int a, .int b => .ok (.bl (decide (a ≤ b))) S
  | .str a, .str b => .ok (.bl (!decide (b.cps.toList < a.cps.toList))) S
  | _, _ => .no
def dGt (x y : D) (S : Sto) : Res D := match x, y with
  | .int a, .int b => .ok (.bl (decide (b < a))) S
  | .str a, .str b => .ok (.bl (decide (b.cps.toList < a.cps.toList))) S
  | _, _ => .no
def dGe (x y : D) (S : Sto) : Res D := match x, y with
  | .int a, .int b => .ok (.bl (decide (b ≤ a))) S
  | .str a, .str b => .ok (.bl (!decide (a.cps.toList < b.cps.toList))) S
  | _, _ => .no
def D.isNon : D → Bool
  | .non => true
  | _ => false
def dIsN (x y : D) (S : Sto) : Res D := match y with
  | .non => .ok (.bl x.isNon) S
  | _ => .no
def dIsntN (x y : D) (S : Sto) : Res D := match y with
  | .non => .ok (.bl (!x.isNon)) S
  | _ => .no
/-- flat values -/
def D.sc : D → Option V
  | .non => some .non
  | .bl b => some (.bl b)
  | .int i => some (.int i)
  | .str s => some (.str s)
  | _ => none
def allSome {α β : Type} (f : α → Option β) : List α → Option (List β)
  | [] => some []
  | a :: l => match f a, allSome f l with
    | some b, some bs => some (b :: bs)
    | _, _ => none
def toP : Nat → Sto → D → Option PyData
  | 0, _, _ => none
  | n + 1, S, d => match d with
    | .non => some .none
    | .bl b => some (.bool b)
    | .int i => some (.int i)
    | .str s => some (.str s)
    | .tup ds => (allSome (toP n S) ds).map .tuple
    | .ktu ds => (allSome (toP n S) ds).map .tuple
    | .lsf ds => (allSome (toP n S) ds).map .list
    | .ref l => match S[l]? with
      | some (.lst ds) => (allSome (toP n S) ds).map .list
      | _ => none
/-- == of data -/
def eqD (x y : D) (S : Sto) : Option Bool := match x.sc, y.sc with
  | some v, some w => if scal v w = true then some (decide (v = w)) else (match toP 1 S x, toP 1 S y with
    | some p, some q => if SeqAt.shaped p = true ∧ SeqAt.shaped q = true then some (PyData.eqv p q) else none
    | _, _ => none)
  | _, _ => match toP 30 S x, toP 30 S y with
    | some p, some q => if SeqAt.shaped p = true ∧ SeqAt.shaped q = true then some (PyData.eqv p q) else none
    | _, _ => none
def dEq (x y : D) (S : Sto) : Res D := match eqD x y S with | some b => .ok (.bl b) S | none => .no
def dNe (x y : D) (S : Sto) : Res D := match eqD x y S with | some b => .ok (.bl (!b)) S | none => .no
/-- `in` -/
def strIn (x y : Str) : Bool := match x.cps.toList with
  | [k] => decide (k ∈ y.cps.toList)
  | _ => !(Builtin.Str.occurrences y x 0 y.length 1).isEmpty
def D.seq (d : D) (S : Sto) : Option (List D) := match d with
  | .tup ds => some ds
  | .ktu ds => some ds
  | .lsf ds => some ds
  | .ref l => match S[l]? with
    | some (.lst ds) => some ds
    | _ => none
  | _ => none
def D.key : D → Option Key
  | .int i => some (.inl i)
  | .str s => some (.inr s)
  | _ => none
def D.tkey : D → Option (List Key)
  | .tup ds => allSome D.key ds
  | _ => none
section
variable {κ : Type} [DecidableEq κ]
def valD (k : κ) : List (κ × D) → Option D
  | [] => none
  | p :: r => if p.1 = k then some p.2 else valD k r
def putD (kvs : List (κ × D)) (k : κ) (d : D) : List (κ × D) := if (valD k kvs).isSome = true then kvs.map (fun p => if p.1 = k then (p.1, d) else p) else kvs ++ [(k, d)]
end
def inD (x y : D) (S : Sto) : Option Bool := match y with
  | .str z => (match x with | .str w => some (strIn w z) | _ => none)
  | .ref l => (match S[l]? with
    | some (.lst ds) => (match x.sc, allSome D.sc ds with | some v, some vs => some (inV v vs) | _, _ => none)
    | some (.dic kvs) => (match x.key with | some k => some (valD k kvs).isSome | none => none)
    | some (.lok kvs) => (match x.key with | some k => some (valD k kvs).isSome | none => none)
    | some (.dit kvs) => (match x.tkey with | some k => some (valD k kvs).isSome | none => none)
    | _ => none)
  | y => match y.seq S with
    | some ds => (match x.sc, allSome D.sc ds with | some v, some vs => some (inV v vs) | _, _ => none)
    | none => none
section
variable {c : EC} {X : Cx} {K : PySem.W.Frag} {H : Hp} {π : List Addr} {S : Sto}
def rLtP : R2 := fun x y H Q => Lb.rLt x y H Q ∨ ∃ i j, x = .str i ∧ y = .str j ∧ Q (.bl (decide (i.cps.toList < j.cps.toList))) H
def rLeP : R2 := fun x y H Q => Lb.rLe x y H Q ∨ ∃ i j, x = .str i ∧ y = .str j ∧ Q (.bl (!decide (j.cps.toList < i.cps.toList))) H
def rGtP : R2 := fun x y H Q => Lb.rGt x y H Q ∨ ∃ i j, x = .str i ∧ y = .str j ∧ Q (.bl (decide (j.cps.toList < i.cps.toList))) H
def rGeP : R2 := fun x y H Q => Lb.rGe x y H Q ∨ ∃ i j, x = .str i ∧ y = .str j ∧ Q (.bl (!decide (i.cps.toList < j.cps.toList))) H
theorem op_ltP : OpR X (compareOp .Lt) rLtP := op_ltI.or op_lt_str
theorem op_leP : OpR X (compareOp .LtE) rLeP := op_leI.or op_le_str
theorem op_gtP : OpR X (compareOp .Gt) rGtP := op_gtI.or op_gt_str
theorem op_geP : OpR X (compareOp .GtE) rGeP := op_geI.or op_ge_str
theorem os_lt : OpS c rLtP dLt := by
  intro W σ H π S x y dx dy Q s rx ry q
  unfold dLt at q
  split at q
  · rw [rx.intI, ry.intI]; exact .inl ⟨_, _, rfl, rfl, q _ _ _ Ext.refl s (.bl _)⟩
  · rw [rx.strI, ry.strI]; exact .inr ⟨_, _, rfl, rfl, q _ _ _ Ext.refl s (.bl _)⟩
  · exact q.elim
theorem os_le : OpS c rLeP dLe := by
  intro W σ H π S x y dx dy Q s rx ry q
  unfold dLe at q
  split at q
  · rw [rx.intI, ry.intI]; exact .inl ⟨_, _, rfl, rfl, q _ _ _ Ext.refl s (.bl _)⟩
  · rw [rx.strI, ry.strI]; exact .inr ⟨_, _, rfl, rfl, q _ _ _ Ext.refl s (.bl _)⟩
  · exact q.elim
theorem os_gt : OpS c rGtP dGt := by
  intro W σ H π S x y dx dy Q s rx ry q
  unfold dGt at q
  split at q
  · rw [rx.intI, ry.intI]; exact .inl ⟨_, _, rfl, rfl, q _ _ _ Ext.refl s (.bl _)⟩
  · rw [rx.strI, ry.strI]; exact .inr ⟨_, _, rfl, rfl, q _ _ _ Ext.refl s (.bl _)⟩
  · exact q.elim
theorem os_ge : OpS c rGeP dGe := by
  intro W σ H π S x y dx dy Q s rx ry q
  unfold dGe at q
  split at q
  · rw [rx.intI, ry.intI]; exact .inl ⟨_, _, rfl, rfl, q _ _ _ Ext.refl s (.bl _)⟩
  · rw [rx.strI, ry.strI]; exact .inr ⟨_, _, rfl, rfl, q _ _ _ Ext.refl s (.bl _)⟩
  · exact q.elim
theorem is_non {v : V} {d : D} (h : VR K H π v d) : decide (v = .non) = d.isNon := by cases h <;> simp [D.isNon]
theorem isnt_non {v : V} {d : D} (h : VR K H π v d) : (!decide (v = .non)) = !d.isNon := by rw [is_non h]
theorem os_is : OpS c rIs0 dIsN := by
  intro W σ H π S x y dx dy Q s rx ry q
  unfold dIsN at q
  split at q
  · refine ⟨ry.nonI, ?_⟩; rw [is_non rx]; exact q _ _ _ Ext.refl s (.bl _)
  · exact q.elim
theorem os_isnt : OpS c rIsnt0 dIsntN := by
  intro W σ H π S x y dx dy Q s rx ry q
  unfold dIsntN at q
  split at q
  · refine ⟨ry.nonI, ?_⟩; rw [isnt_non rx]; exact q _ _ _ Ext.refl s (.bl _)
  · exact q.elim
theorem VR.sc {v : V} {d : D} {w : V} (h : VR K H π v d) (e : d.sc = some w) : v = w := by cases h <;> cases e <;> rfl
theorem sc_flat {d : D} {w : V} (e : d.sc = some w) : flatV w = true := by cases d <;> cases e <;> rfl
theorem VRs.sc : ∀ {vs : List V} {ds : List D} {ws : List V}, VRs K H π vs ds → allSome D.sc ds = some ws → vs = ws ∧ ws.all flatV = true
  | _, _, _, .nil, e => by cases e; exact ⟨rfl, rfl⟩
  | _, _, _, .cons h r, e => by
    unfold allSome at e
    split at e
    · rename_i b bs h1 h2
      cases e
      obtain ⟨e1, e2⟩ := r.sc h2
      exact ⟨by rw [h.sc h1, e1], by rw [List.all_cons, sc_flat h1, e2]; rfl⟩
    · cases e
theorem VRs.dpa {f : D → Option PyData} (hf : ∀ v d p, VR K H π v d → f d = some p → Dp K H v p) : ∀ {vs : List V} {ds : List D} {ps : List PyData}, VRs K H π vs ds → allSome f ds = some ps → DpAll K H vs ps
  | _, _, _, .nil, e => by cases e; exact .nil
  | _, _, _, .cons h r, e => by
    unfold allSome at e
    split at e
    · rename_i b bs h1 h2; cases e; exact .cons (hf _ _ _ h h1) (r.dpa hf h2)
    · cases e
theorem VR.dp {cl : Nat → Addr} (s : SR K cl H π S) : ∀ (n : Nat) (v : V) (d : D) (p : PyData), VR K H π v d → toP n S d = some p → Dp K H v p
  | 0, _, _, _, _, e => by cases e
  | n + 1, v, d, p, h, e => by
    have ih := VR.dp s n
    unfold toP at e
    split at e
    · cases e; rw [h.nonI]; exact .non
    · cases e; rw [h.blI]; exact .bl _
    · cases e; rw [h.intI]; exact .int _
    · cases e; rw [h.strI]; exact .str _
    · obtain ⟨ps, e1, rfl⟩ := Option.map_eq_some_iff.mp e
      obtain ⟨a, xs, rfl, h1, h2⟩ := h.tupI
      exact .tup (SqT.of h1) (h2.dpa ih e1)
    · obtain ⟨ps, e1, rfl⟩ := Option.map_eq_some_iff.mp e
      obtain ⟨a, xs, rfl, h1, h2⟩ := h.ktuI
      exact .tup h1 (h2.dpa ih e1)
    · obtain ⟨ps, e1, rfl⟩ := Option.map_eq_some_iff.mp e
      obtain ⟨a, xs, rfl, h1, h2⟩ := h.lsfI
      exact .lst h1.l (h2.dpa ih e1)
    · split at e
      · rename_i ds hS
        obtain ⟨ps, e1, rfl⟩ := Option.map_eq_some_iff.mp e
        obtain ⟨a, rfl, hl⟩ := h.refI
        obtain ⟨xs, h1, h2⟩ := s.at_ _ _ _ hl hS
        exact .lst (SqL.of h1) (h2.dpa ih e1)
      · cases e
theorem eqD_at {cl : Nat → Addr} (s : SR K cl H π S) {x y : V} {dx dy : D} {b : Bool} (rx : VR K H π x dx) (ry : VR K H π y dy) (e : eqD dx dy S = some b) :
    (scal x y = true ∧ b = decide (x = y)) ∨ ∃ p q, Dp K H x p ∧ Dp K H y q ∧ SeqAt.shaped p = true ∧ SeqAt.shaped q = true ∧ b = PyData.eqv p q := by
  unfold eqD at e
  split at e
  · rename_i v w h1 h2
    rw [rx.sc h1, ry.sc h2]
    split at e
    · rename_i hs; cases e; exact .inl ⟨hs, rfl⟩
    · split at e
      · rename_i p q h3 h4
        split at e
        · rename_i h5
          cases e
          exact .inr ⟨p, q, by rw [← rx.sc h1]; exact VR.dp s _ _ _ _ rx h3, by rw [← ry.sc h2]; exact VR.dp s _ _ _ _ ry h4, h5.1, h5.2, rfl⟩
        · cases e
      · cases e
  · split at e
    · rename_i p q h3 h4
      split at e
      · rename_i h5
        cases e
        exact .inr ⟨p, q, VR.dp s _ _ _ _ rx h3, VR.dp s _ _ _ _ ry h4, h5.1, h5.2, rfl⟩
      · cases e
    · cases e
theorem os_eq (hK : K = c.K) : OpS c (rEqA K) dEq := by
  intro W σ H π S x y dx dy Q s rx ry q
  subst hK
  unfold dEq at q
  split at q
  · rename_i b e
    have := q _ _ _ Ext.refl s (.bl b)
    rcases eqD_at s rx ry e with ⟨h1, rfl⟩ | ⟨p, r, h1, h2, h3, h4, rfl⟩
    · exact .inl ⟨h1, this⟩
    · exact .inr ⟨p, r, h1, h2, h3, h4, this⟩
  · exact q.elim
theorem os_ne (hK : K = c.K) : OpS c (rNeA K) dNe := by
  intro W σ H π S x y dx dy Q s rx ry q
  subst hK
  unfold dNe at q
  split at q
  · rename_i b e
    have := q _ _ _ Ext.refl s (.bl _)
    rcases eqD_at s rx ry e with ⟨h1, rfl⟩ | ⟨p, r, h1, h2, h3, h4, rfl⟩
    · exact .inl ⟨h1, this⟩
    · exact .inr ⟨p, r, h1, h2, h3, h4, this⟩
  · exact q.elim
theorem pr_val {κ : Type} [DecidableEq κ] {k : κ} {ws : List (κ × V)} {kvs : List (κ × D)} (h : PR K H π ws kvs) : (∀ d, valD k kvs = some d → ∃ v, valV ws k = some v ∧ VR K H π v d) ∧ (valD k kvs = none → valV ws k = none) := by
  induction h with
  | nil => exact ⟨fun d e => (nomatch e), fun _ => rfl⟩
  | @cons k' v vs d ds h r ih =>
    by_cases e : k' = k
    · refine ⟨fun d' q => ⟨v, valV_pos (p := (k', v)) e, ?_⟩, fun q => ?_⟩
      · rw [valD, if_pos e] at q; cases q; exact h
      · rw [valD, if_pos e] at q; cases q
    · rw [valD, if_neg (show ¬ (k', d).1 = k from e), valV_neg (p := (k', v)) e]; exact ih
theorem pr_some {κ : Type} [DecidableEq κ] {k : κ} {ws : List (κ × V)} {kvs : List (κ × D)} (h : PR K H π ws kvs) : (valV ws k).isSome = (valD k kvs).isSome := by
  cases e : valD k kvs with
  | none => rw [(pr_val h).2 e]; rfl
  | some d => obtain ⟨v, h1, _⟩ := (pr_val h).1 d e; rw [h1]; rfl
theorem pr_app {κ : Type} {ws ws' : List (κ × V)} {kvs kvs' : List (κ × D)} (h : PR K H π ws kvs) (h' : PR K H π ws' kvs') : PR K H π (ws ++ ws') (kvs ++ kvs') := by
  induction h with
  | nil => exact h'
  | cons h r ih => exact .cons h ih
theorem pr_map {κ : Type} [DecidableEq κ] {k : κ} {v : V} {d : D} {ws : List (κ × V)} {kvs : List (κ × D)} (h : PR K H π ws kvs) (r : VR K H π v d) :
    PR K H π (ws.map fun p => if p.1 = k then (p.1, v) else p) (kvs.map fun p => if p.1 = k then (p.1, d) else p) := by
  induction h with
  | nil => exact .nil
  | @cons k' v' vs d' ds h r' ih =>
    rw [List.map_cons, List.map_cons]
    by_cases e : k' = k
    · rw [if_pos (show (k', v').1 = k from e), if_pos (show (k', d').1 = k from e)]; exact .cons r ih
    · rw [if_neg (show ¬ (k', v').1 = k from e), if_neg (show ¬ (k', d').1 = k from e)]; exact .cons h ih
theorem valV_any' {κ : Type} [DecidableEq κ] {k : κ} {ws : List (κ × V)} : (ws.any fun kv => decide (kv.1 = k)) = (valV ws k).isSome := by
  induction ws with
  | nil => rfl
  | cons p r ih =>
    by_cases e : p.1 = k
    · rw [valV_pos e]; simp [e]
    · rw [valV_neg e, List.any_cons, ih]; simp [e]
theorem pr_put {κ : Type} [DecidableEq κ] {k : κ} {v : V} {d : D} {ws : List (κ × V)} {kvs : List (κ × D)} (h : PR K H π ws kvs) (r : VR K H π v d) : PR K H π (putK ws k v) (putD kvs k d) := by
  unfold putK putD
  rw [valV_any', pr_some h]
  split
  · exact pr_map h r
  · exact pr_app h (.cons r .nil)
theorem pr_len {κ : Type} {ws : List (κ × V)} {kvs : List (κ × D)} (h : PR K H π ws kvs) : ws.length = kvs.length := by
  induction h with
  | nil => rfl
  | cons _ _ ih => simp [ih]
theorem VR.key {v : V} {d : D} {k : Key} (h : VR K H π v d) (e : d.key = some k) : v = kV k := by cases h <;> cases e <;> rfl
theorem VRs.key : ∀ {vs : List V} {ds : List D} {ks : List Key}, VRs K H π vs ds → allSome D.key ds = some ks → vs = ks.map kV
  | _, _, _, .nil, e => by cases e; rfl
  | _, _, _, .cons h r, e => by
    unfold allSome at e
    split at e
    · rename_i b bs h1 h2; cases e; rw [h.key h1, r.key h2]; rfl
    · cases e
/-- what the dict at l holds at a key -/
def dgetD (x : Ob) (k : D) : Option (Option D) := match x with
  | .dic kvs => (match k.key with | some k => some (valD k kvs) | none => none)
  | .lok kvs => (match k.key with | some k => some (valD k kvs) | none => none)
  | .dit kvs => (match k.tkey with | some k => some (valD k kvs) | none => none)
  | _ => none
theorem dget_at {cl : Nat → Addr} {ob : Ob} {a : Addr} {y : V} {dk : D} {r : Option D} (o : OR K cl H π ob a) (ry : VR K H π y dk) (e : dgetD ob dk = some r) :
    ∃ w, DGet H a y w ∧ w.isSome = r.isSome ∧ (∀ d, r = some d → ∃ v, w = some v ∧ VR K H π v d) := by
  unfold dgetD at e
  split at e
  · obtain ⟨ws, h1, h2⟩ := o
    split at e
    · rename_i k hk
      cases e
      rw [ry.key hk]
      exact ⟨_, DGet.k h1, pr_some h2, (pr_val h2).1⟩
    · cases e
  · obtain ⟨od, ws, h1, h2⟩ := o
    split at e
    · rename_i k hk
      cases e
      rw [ry.key hk]
      exact ⟨_, .inl ⟨ws, k, .inr ⟨od, h1⟩, rfl, rfl⟩, pr_some h2, (pr_val h2).1⟩
    · cases e
  · obtain ⟨ws, h1, h2⟩ := o
    split at e
    · rename_i k hk
      cases e
      unfold D.tkey at hk
      split at hk
      · obtain ⟨b, xs, rfl, h3, h4⟩ := ry.tupI
        rw [h4.key hk] at h3
        exact ⟨_, DGet.t h1 h3, pr_some h2, (pr_val h2).1⟩
      · cases hk
    · cases e
  · cases e
def rInD (neg : Bool) : R2 := fun x y H Q => ∃ a o, y = .ref a ∧ DGet H a x o ∧ Q (.bl (if neg then !o.isSome else o.isSome)) H
theorem op_inD (hu : X.A.units + 1 < cLine) : OpR X (compareOp .In) (rInD false) := by
  intro pins s σ H x y v u Q I rx ry h
  obtain ⟨a, o, rfl, g, q⟩ := h
  cases ry
  exact d_in hu I g rx fun s3 I3 => ⟨.bl o.isSome, H, I3, rfl, q⟩
def rInS (neg : Bool) : R2 := fun x y H Q => ∃ i j, x = .str i ∧ y = .str j ∧ Q (.bl (if neg then !(!(Builtin.Str.occurrences j i 0 j.length 1).isEmpty) else !(Builtin.Str.occurrences j i 0 j.length 1).isEmpty)) H
def rInP (K : PySem.W.Frag) (neg : Bool) : R2 := fun x y H Q => (rIn K neg x y H Q ∨ rInD neg x y H Q) ∨ rSign neg x y H Q ∨ rInS neg x y H Q
theorem op_inP (hu : X.A.units + 1 < cLine) (h : X.K = K) : OpR X (compareOp .In) (rInP K false) := h ▸ (op_in_seq.or (op_inD hu)).or (op_in_sign.or op_in_str)
theorem strIn_at (w z : Str) : (∃ k : Nat, w = ⟨#[k]⟩ ∧ strIn w z = decide (k ∈ z.cps.toList)) ∨ strIn w z = !(Builtin.Str.occurrences z w 0 z.length 1).isEmpty := by
  unfold strIn
  split
  · rename_i k hk
    refine .inl ⟨k, ?_, rfl⟩
    cases w with
    | mk cps => simp only at hk; congr 1; exact Array.toList_inj.mp hk
  · exact .inr rfl
theorem in_at {cl : Nat → Addr} (s : SR K cl H π S) {x y : V} {dx dy : D} {b : Bool} {neg : Bool} {Q : VK} (rx : VR K H π x dx) (ry : VR K H π y dy) (e : inD dx dy S = some b) (q : Q (.bl (if neg then !b else b)) H) : rInP K neg x y H Q := by
  have seqs : ∀ {ds : List D} {p : Addr} {xs : List V} {v : V} {vs : List V}, (SqL K H p xs ∨ SqT K H p xs) → VRs K H π xs ds → dx.sc = some v → allSome D.sc ds = some vs → some (inV v vs) = some b → y = .ref p → rInP K neg x y H Q := by
    intro ds p xs v vs h1 h2 h3 h4 h5 h6
    cases h5
    obtain ⟨e1, e2⟩ := h2.sc h4
    subst h6 e1
    refine .inl (.inl ⟨p, xs, rfl, h1, by rw [rx.sc h3]; exact sc_flat h3, e2, ?_⟩)
    rw [rx.sc h3]; exact q
  unfold inD at e
  split at e
  · rename_i z
    split at e
    · rename_i w
      cases e
      rw [rx.strI, ry.strI]
      rcases strIn_at w z with ⟨k, rfl, e⟩ | e
      · rw [e] at q
        exact .inr (.inl ⟨k, z, rfl, rfl, q⟩)
      · rw [e] at q
        exact .inr (.inr ⟨_, _, rfl, rfl, q⟩)
    · cases e
  · rename_i l
    obtain ⟨a, rfl, hl⟩ := ry.refI
    split at e
    · rename_i ds hS
      obtain ⟨xs, h1, h2⟩ := s.at_ _ _ _ hl hS
      split at e
      · rename_i v vs h3 h4
        exact seqs (.inl (SqL.of h1)) h2 h3 h4 e rfl
      · cases e
    · rename_i kvs hS
      have o := s.at_ _ _ _ hl hS
      split at e
      · rename_i k hk
        cases e
        obtain ⟨w, g, h1, _⟩ := dget_at o rx (show dgetD (.dic kvs) dx = some (valD k kvs) by unfold dgetD; simp only [hk])
        refine .inl (.inr ⟨a, w, rfl, g, ?_⟩)
        rw [h1]; exact q
      · cases e
    · rename_i kvs hS
      have o := s.at_ _ _ _ hl hS
      split at e
      · rename_i k hk
        cases e
        obtain ⟨w, g, h1, _⟩ := dget_at o rx (show dgetD (.lok kvs) dx = some (valD k kvs) by unfold dgetD; simp only [hk])
        refine .inl (.inr ⟨a, w, rfl, g, ?_⟩)
        rw [h1]; exact q
      · cases e
    · rename_i kvs hS
      have o := s.at_ _ _ _ hl hS
      split at e
      · rename_i k hk
        cases e
        obtain ⟨w, g, h1, _⟩ := dget_at o rx (show dgetD (.dit kvs) dx = some (valD k kvs) by unfold dgetD; simp only [hk])
        refine .inl (.inr ⟨a, w, rfl, g, ?_⟩)
        rw [h1]; exact q
      · cases e
    · cases e
  · rename_i h1 h2
    split at e
    · rename_i ds hd
      split at e
      · rename_i v vs h3 h4
        cases ry with
        | tup h r => cases hd; exact seqs (.inr (SqT.of h)) r h3 h4 e rfl
        | ktu h r => cases hd; exact seqs (.inr h) r h3 h4 e rfl
        | lsf h r => cases hd; exact seqs (.inl h.l) r h3 h4 e rfl
        | ref h => exact absurd rfl (h2 _)
        | _ => cases hd
      · cases e
    · cases e
end
end Pu
namespace Pu
open L2 PySem PySem.Spec PyProof.Rows Lb
def getD' (ob : Option Ob) (k : D) : Option D := match ob with
  | some ob => (match dgetD ob k with | some (some d) => some d | _ => none)
  | none => none
def idxD (x i : D) (S : Sto) : Option D := match x with
  | .str z => (match i with | .int n => if z.length ≤ 100000 then (atI z.cps.toList n).map fun c => .str ⟨#[c]⟩ else none | _ => none)
  | .ref l => (match S[l]? with
    | some (.lst ds) => (match i with | .int n => atI ds n | _ => none)
    | ob => getD' ob i)
  | x => (match x.seq S, i with | some ds, .int n => atI ds n | _, _ => none)
def dIdx (x i : D) (S : Sto) : Res D := match idxD x i S with | some d => .ok d S | none => .no
section
variable {c : EC} {X : Cx} {K : PySem.W.Frag} {H : Hp} {π : List Addr} {S : Sto}
def rIxD : R2 := fun x y H Q => ∃ a v, x = .ref a ∧ DGet H a y (some v) ∧ Q v H
theorem ix_dict (hu : X.A.units + 1 < cLine) : IxR X rIxD := by
  intro value slice pins s σ H x y v u Q I rx ry h hs
  obtain ⟨a, v', rfl, g, q⟩ := h
  cases rx
  exact tail_any (dict_typeIs I g) PySem.F.slot_dict_getitem.lookup (d_getItem hu I g ry fun w' s3 I3 rw' => ⟨v', H, I3, rw', q⟩) hs
def rIxP (K : PySem.W.Frag) : R2 := fun x y H Q => rIx K x y H Q ∨ rIxD x y H Q
theorem ix_P (hu : X.A.units + 1 < cLine) (h : X.K = K) : IxR X (rIxP K) := h ▸ ix_seq.or (ix_dict hu)
theorem vrs_at {vs : List V} {ds : List D} {n : Int} {d : D} (r : VRs K H π vs ds) (e : atI ds n = some d) : ∃ v, atI vs n = some v ∧ VR K H π v d := by
  unfold atI at e ⊢
  rw [r.len]
  cases h : ixN ds.length n with
  | none => rw [h] at e; cases e
  | some j => rw [h] at e; exact r.get e
theorem os_ix (hK : K = c.K) : OpS c (rIxP K) dIdx := by
  intro W σ H π S x y dx dy Q s rx ry q
  subst hK
  unfold dIdx at q
  split at q
  · rename_i d e
    have fin : ∀ v, VR c.K H π v d → Q v H := fun v r => q v H π Ext.refl s r
    have lst : ∀ {ds : List D} {p : Addr} {xs : List V} {n : Int}, (SqL c.K H p xs ∨ SqT c.K H p xs) → VRs c.K H π xs ds → x = .ref p → dy = .int n → atI ds n = some d → rIxP c.K x y H Q := by
      intro ds p xs n h1 h2 h3 h4 h5
      subst h3 h4
      obtain ⟨v, h6, h7⟩ := vrs_at h2 h5
      rw [ry.intI]
      rcases h1 with h1 | h1
      · exact .inl (.inl ⟨p, xs, n, v, rfl, rfl, h1, h6, fin v h7⟩)
      · exact .inl (.inr (.inl ⟨p, xs, n, v, rfl, rfl, h1, h6, fin v h7⟩))
    unfold idxD at e
    split at e
    · rename_i z
      split at e
      · rename_i n
        split at e
        · rename_i hz
          obtain ⟨k, hk, rfl⟩ := Option.map_eq_some_iff.mp e
          rw [rx.strI, ry.intI]
          exact .inl (.inr (.inr ⟨z, n, k, rfl, rfl, lim_size hz, hk, fin _ (.str _)⟩))
        · cases e
      · cases e
    · rename_i l
      obtain ⟨a, rfl, hl⟩ := rx.refI
      split at e
      · rename_i ds hS
        obtain ⟨xs, h1, h2⟩ := s.at_ _ _ _ hl hS
        split at e
        · exact lst (.inl (SqL.of h1)) h2 rfl rfl e
        · cases e
      · rename_i h1
        unfold getD' at e
        split at e
        · rename_i ob hob
          split at e
          · rename_i d' hd
            cases e
            obtain ⟨w, g, _, h2⟩ := dget_at (s.at_ _ _ _ hl hob) ry hd
            obtain ⟨v, h3, h4⟩ := h2 _ rfl
            subst h3
            exact .inr ⟨a, v, rfl, g, fin v h4⟩
          · cases e
        · cases e
    · rename_i h1 h2
      split at e
      · rename_i ds n hd
        cases rx with
        | tup h r => cases hd; exact lst (.inr (SqT.of h)) r rfl rfl e
        | ktu h r => cases hd; exact lst (.inr h) r rfl rfl e
        | lsf h r => cases hd; exact lst (.inl h.l) r rfl rfl e
        | ref h => exact absurd rfl (h2 _)
        | _ => cases hd
      · cases e
  · exact q.elim
end
def pN : Env → Sto → Res (Option Int) := fun _ S => .ok none S
def pE (a : Ex) : Env → Sto → Res (Option Int) := fun e S => (a e S).bind fun d S1 => match d with | .int i => .ok (some i) S1 | .non => .ok none S1 | _ => .no
def cutD (xs : List D) (lo hi : Option Int) : List D := (xs.drop (HT.sIx xs.length 0 lo)).take (HT.sIx xs.length xs.length hi - HT.sIx xs.length 0 lo)
def dSl (x : D) (lo hi : Option Int) (S : Sto) : Res D := match x with
  | .str z => if z.length ≤ 100000 then .ok (.str (cutS z lo hi)) S else .no
  | .tup ds => .ok (.tup (cutD ds lo hi)) S
  | .ktu ds => .no
  | x => (match x.seq S with | some ds => .ok (.ref S.length) (S ++ [.lst (cutD ds lo hi)]) | none => .no)
def eSl (a : Ex) (p q : Env → Sto → Res (Option Int)) : Ex := fun e S => (a e S).bind fun x S1 => (p e S1).bind fun lo S2 => (q e S2).bind fun hi S3 => dSl x lo hi S3
def pickD (xs : List D) (lo hi st : Option Int) : List D := (sliceRange (sliceBounds lo hi st xs.length).1 (sliceBounds lo hi st xs.length).2.1 (sliceBounds lo hi st xs.length).2.2).filterMap (xs[·]?)
def eSl3 (a : Ex) (p q r : Env → Sto → Res (Option Int)) : Ex := fun e S => (a e S).bind fun x S1 => (p e S1).bind fun lo S2 => (q e S2).bind fun hi S3 => (r e S3).bind fun st S4 =>
  if st = some 0 then .no else match x with
  | .tup _ => .no
  | .ktu _ => .no
  | x => (match x.seq S4 with | some ds => .ok (.ref S4.length) (S4 ++ [.lst (pickD ds lo hi st)]) | none => .no)
def rSlP (K : PySem.W.Frag) : V → Option Int → Option Int → Hp → VK → Prop := fun x lo hi H Q => rSlL K x lo hi H Q ∨ L2.rSlA K x lo hi H Q ∨ rSlS x lo hi H Q
section
variable {c : EC} {X : Cx} {K : PySem.W.Frag} {H : Hp} {π : List Addr} {S : Sto} {W : WX} {ex : Expr} {fa : Ex} {p q r : Env → Sto → Res (Option Int)}
theorem sl_P (h : X.K = K) : L2.SlR X (rSlP K) := h ▸ sl_list.or (sl_tupA.or sl_str)
theorem po_n {e : Option Expr} (h : PO X e tNoPart) : PO X e (PoT c W pN) := h.weak fun σ H Q ⟨e, S, π, ev, q⟩ => run_ok (rel := rEq) ev.sr rfl q
theorem po_e {e : Option Expr} (h : PO X e (tPartN (EvT c W fa))) : PO X e (PoT c W (pE fa)) := h.weak fun σ H Q ⟨e, S, π, ev, q⟩ =>
  ⟨e, S, π, ev, (run_bind (rel := rV c) q).mono fun x H1 ⟨d, S1, π1, e1, s1, rx, q1⟩ => by
    split at q1
    · rename_i i; exact .inr ⟨i, rx.intI, run_ok (rel := rEq) s1 rfl q1⟩
    · exact .inl ⟨rx.nonI, run_ok (rel := rEq) s1 rfl q1⟩
    · exact q1.elim⟩
theorem VRs.cut {vs : List V} {ds : List D} (r : VRs K H π vs ds) (lo hi : Option Int) : VRs K H π (cutV vs lo hi) (cutD ds lo hi) := by
  unfold cutV cutD
  rw [r.len]
  exact (r.drop _).take _
theorem cutD_all {ds : List D} {lo hi : Option Int} (h : HT.sIx ds.length 0 lo = 0 ∧ HT.sIx ds.length ds.length hi = ds.length) : cutD ds lo hi = ds := by
  unfold cutD
  rw [h.1, h.2]; simp
theorem sl_at (hK : K = c.K) {σ : L2.St} {x : V} {dx : D} {lo hi : Option Int} {Q : VK} (s : SR c.K c.cl H π S) (rx : VR c.K H π x dx) (q : Run c W (rV c) σ H π (dSl dx lo hi S) Q) : rSlP K x lo hi H Q := by
  subst hK
  have lst : ∀ {a : Addr} {xs : List V} {ds : List D}, x = .ref a → SqL c.K H a xs → VRs c.K H π xs ds → Run c W (rV c) σ H π (.ok (.ref S.length) (S ++ [.lst (cutD ds lo hi)])) Q → rSlP c.K x lo hi H Q := by
    intro a xs ds h1 h2 h3 q
    exact .inl ⟨a, xs, h1, h2, fun p hp => mk_lst s (h3.cut lo hi) hp q⟩
  unfold dSl at q
  split at q
  · split at q
    · rename_i h; rw [rx.strI]; exact .inr (.inr ⟨_, rfl, lim_size h, q _ _ _ Ext.refl s (.str _)⟩)
    · exact q.elim
  · rename_i ds
    obtain ⟨a, xs, rfl, h1, h2⟩ := rx.tupI
    refine .inr (.inl ⟨a, xs, rfl, SqT.of h1, fun hw => ?_, fun _ p hp => ?_⟩)
    · rw [h2.len] at hw
      rw [cutD_all hw] at q
      exact q _ _ _ Ext.refl s rx
    · exact q _ _ _ (Ext.new hp) (s.new hp) (.tup upd_same ((h2.cut lo hi).ext (Ext.new hp)))
  · exact q.elim
  · rename_i h1 h2 h3
    split at q
    · rename_i ds hd
      cases rx with
      | tup h r => exact absurd rfl (h2 _)
      | ktu h r => exact absurd rfl (h3 _)
      | lsf h r => cases hd; exact lst rfl h.l r q
      | ref hl =>
        unfold D.seq at hd
        dsimp only at hd
        split at hd
        · rename_i ds' hS
          cases hd
          obtain ⟨xs, h4, h5⟩ := s.at_ _ _ _ hl hS
          exact lst rfl (SqL.of h4) h5 q
        · cases hd
      | _ => cases hd
    · exact q.elim
theorem ev_sl (h : PE X ex (tSl (rSlP K) (EvT c W fa) (PoT c W p) (PoT c W q))) (hK : K = c.K) : PE X ex (EvT c W (eSl fa p q)) := h.weak fun σ H Q ⟨e, S, π, ev, q⟩ =>
  ⟨e, S, π, ev, (run_bind (rel := rV c) q).mono fun x H1 ⟨dx, S1, π1, e1, s1, rx, q1⟩ =>
    ⟨e, S1, π1, ev.ext e1 s1, (run_bind (rel := rEq) q1).mono fun lo H2 ⟨lo', S2, π2, e2, s2, rl, q2⟩ =>
      ⟨e, S2, π2, (ev.ext e1 s1).ext e2 s2, (run_bind (rel := rEq) q2).mono fun hi H3 ⟨hi', S3, π3, e3, s3, rh, q3⟩ => by
        cases rl
        cases rh
        exact sl_at hK s3 (rx.ext (e2.trans e3)) q3⟩⟩⟩
theorem VRs.pick {vs : List V} {ds : List D} (r : VRs K H π vs ds) (lo hi st : Option Int) : VRs K H π (pickV vs lo hi st) (pickD ds lo hi st) := by
  unfold pickV pickD
  rw [r.len]
  exact VRs.filterMap (γ := Nat) r _
theorem ev_sl3 (h : PE X ex (tSl3 K (EvT c W fa) (PoT c W p) (PoT c W q) (PoT c W r))) (hK : K = c.K) : PE X ex (EvT c W (eSl3 fa p q r)) := h.weak fun σ H Q ⟨e, S, π, ev, q⟩ =>
  ⟨e, S, π, ev, (run_bind (rel := rV c) q).mono fun x H1 ⟨dx, S1, π1, e1, s1, rx, q1⟩ =>
    ⟨e, S1, π1, ev.ext e1 s1, (run_bind (rel := rEq) q1).mono fun lo H2 ⟨lo', S2, π2, e2, s2, rl, q2⟩ =>
      ⟨e, S2, π2, (ev.ext e1 s1).ext e2 s2, (run_bind (rel := rEq) q2).mono fun hi H3 ⟨hi', S3, π3, e3, s3, rh, q3⟩ =>
        ⟨e, S3, π3, ((ev.ext e1 s1).ext e2 s2).ext e3 s3, (run_bind (rel := rEq) q3).mono fun st H4 ⟨st', S4, π4, e4, s4, rs, q4⟩ => by
          cases rl
          cases rh
          cases rs
          subst hK
          split at q4
          · exact q4.elim
          rename_i h0
          have rx4 := rx.ext (e2.trans (e3.trans e4))
          split at q4
          · exact q4.elim
          · exact q4.elim
          · rename_i n1 n2
            split at q4
            · rename_i ds hd
              cases rx4 with
              | tup h r => exact absurd rfl (n1 _)
              | ktu h r => exact absurd rfl (n2 _)
              | lsf h r => cases hd; exact ⟨_, _, rfl, h.l, h0, fun p hp => mk_lst s4 (r.pick lo hi st) hp q4⟩
              | ref hl =>
                unfold D.seq at hd
                dsimp only at hd
                split at hd
                · rename_i ds' hS
                  cases hd
                  obtain ⟨xs, h4, h5⟩ := s4.at_ _ _ _ hl hS
                  exact ⟨_, _, rfl, SqL.of h4, h0, fun p hp => mk_lst s4 (h5.pick lo hi st) hp q4⟩
                · cases hd
              | _ => cases hd
            · exact q4.elim⟩⟩⟩⟩
end
def lenD (x : D) (S : Sto) : Option Nat := match x with
  | .str z => if z.length ≤ 100000 then some z.length else none
  | .ref l => (match S[l]? with
    | some (.lst ds) => some ds.length
    | some (.dic kvs) => some kvs.length
    | _ => none)
  | x => (x.seq S).map List.length
def bLen (xs : List D) (S : Sto) : Res D := match xs with
  | [x] => (match lenD x S with | some n => .ok (.int n) S | none => .no)
  | _ => .no
def bInt (xs : List D) (S : Sto) : Res D := match xs with
  | [.int i] => .ok (.int i) S
  | [.bl b] => .ok (.int (if b = true then 1 else 0)) S
  | _ => .no
def bBool (xs : List D) (S : Sto) : Res D := match xs with
  | [.int i] => .ok (.bl (i != 0)) S
  | [.bl b] => .ok (.bl b) S
  | _ => .no
def bAbs (xs : List D) (S : Sto) : Res D := match xs with
  | [.int i] => .ok (.int (if i < 0 then -i else i)) S
  | _ => .no
def bMax2 (xs : List D) (S : Sto) : Res D := match xs with
  | [.int i, .int j] => .ok (.int (if j > i then j else i)) S
  | _ => .no
def bMin2 (xs : List D) (S : Sto) : Res D := match xs with
  | [.int i, .int j] => .ok (.int (if j < i then j else i)) S
  | _ => .no
def bTuple (xs : List D) (S : Sto) : Res D := match xs with
  | [.tup ds] => .ok (.tup ds) S
  | [.ref l] => (match S[l]? with | some (.lst ds) => .ok (.tup ds) S | _ => .no)
  | [.lsf ds] => .ok (.tup ds) S
  | _ => .no
def D.ofKey : Key → D
  | .inl i => .int i
  | .inr s => .str s
def bList (xs : List D) (S : Sto) : Res D := match xs with
  | [.ref l] => (match S[l]? with
    | some (.lst ds) => .ok (.ref S.length) (S ++ [.lst ds])
    | some (.dic kvs) => .ok (.ref S.length) (S ++ [.lst (kvs.map fun p => D.ofKey p.1)])
    | _ => .no)
  | [x] => (match x.seq S with | some ds => .ok (.ref S.length) (S ++ [.lst ds]) | none => .no)
  | _ => .no
def D.bool : D → Option Bool
  | .bl b => some b
  | _ => none
def bAll (xs : List D) (S : Sto) : Res D := match xs with
  | [.ref l] => (match S[l]? with
    | some (.lst ds) => (match allSome D.bool ds with | some bs => .ok (.bl (bs.all id)) S | none => .no)
    | _ => .no)
  | _ => .no
section
variable {c : EC} {X : Cx} {K : PySem.W.Frag} {H : Hp} {π : List Addr} {S : Sto}
theorem vrs1 {vs : List V} {d : D} (h : VRs K H π vs [d]) : ∃ v, vs = [v] ∧ VR K H π v d := by
  obtain ⟨v, us, rfl, h1, h2⟩ := h.consI
  rw [h2.nilI]; exact ⟨v, rfl, h1⟩
def kLenP (K : PySem.W.Frag) : List V → Hp → VK → Prop := fun xs H Q => kLen K xs H Q ∨ ∃ a kvs, xs = [V.ref a] ∧ H a = some (.dK kvs) ∧ Q (.int kvs.length) H
theorem call_lenP (h : X.K = K) : CallR X (.builtin "len") (kLenP K) := h ▸ call_lenA.or call_lenD
theorem cs_len (hK : K = c.K) : CaS c (kLenP K) bLen := by
  intro W σ H π S x dx Q s rx q
  subst hK
  unfold bLen at q
  split at q
  · obtain ⟨v, rfl, r⟩ := vrs1 rx
    split at q
    · rename_i d n e
      have fin : Q (.int n) H := q _ _ _ Ext.refl s (.int _)
      unfold lenD at e
      split at e
      · split at e
        · rename_i hz; cases e; rw [r.strI]; exact .inl ⟨_, _, rfl, ⟨lim_size hz, rfl⟩, fin⟩
        · cases e
      · obtain ⟨a, rfl, hl⟩ := r.refI
        split at e
        · rename_i ds hS
          cases e
          obtain ⟨xs, h1, h2⟩ := s.at_ _ _ _ hl hS
          exact .inl ⟨_, _, rfl, .inl ⟨xs, SqL.of h1, h2.len.symm⟩, fin⟩
        · rename_i kvs hS
          cases e
          obtain ⟨ws, h1, h2⟩ := s.at_ _ _ _ hl hS
          exact .inr ⟨a, ws, rfl, h1, by rw [pr_len h2]; exact fin⟩
        · cases e
      · rename_i n1 n2
        obtain ⟨ds, hd, rfl⟩ := Option.map_eq_some_iff.mp e
        cases r with
        | tup h r => cases hd; exact .inl ⟨_, _, rfl, .inr ⟨_, SqT.of h, r.len.symm⟩, fin⟩
        | ktu h r => cases hd; exact .inl ⟨_, _, rfl, .inr ⟨_, h, r.len.symm⟩, fin⟩
        | lsf h r => cases hd; exact .inl ⟨_, _, rfl, .inl ⟨_, h.l, r.len.symm⟩, fin⟩
        | ref h => exact absurd rfl (n2 _)
        | _ => cases hd
    · exact q.elim
  · exact q.elim
theorem cs_int : CaS c kInt bInt := by
  intro W σ H π S x dx Q s rx q
  unfold bInt at q
  split at q
  · obtain ⟨v, rfl, r⟩ := vrs1 rx; rw [r.intI]; exact .inl ⟨_, rfl, q _ _ _ Ext.refl s (.int _)⟩
  · obtain ⟨v, rfl, r⟩ := vrs1 rx; rw [r.blI]; exact .inr ⟨_, rfl, q _ _ _ Ext.refl s (.int _)⟩
  · exact q.elim
theorem cs_abs : CaS c kAbs bAbs := by
  intro W σ H π S x dx Q s rx q
  unfold bAbs at q
  split at q
  · obtain ⟨v, rfl, r⟩ := vrs1 rx; rw [r.intI]; exact ⟨_, rfl, q _ _ _ Ext.refl s (.int _)⟩
  · exact q.elim
def kListP (K : PySem.W.Frag) : List V → Hp → VK → Prop := fun xs H Q => (∃ p ys, xs = [.ref p] ∧ (SqL K H p ys ∨ SqT K H p ys) ∧ ∀ l, H l = none → Q (.ref l) (upd H l (.lst ys))) ∨
  ∃ (a : Addr) (kvs : List (Key × V)), xs = [.ref a] ∧ Rd H a (.dK kvs) ∧ ∀ p, H p = none → Q (.ref p) (upd H p (.lst (kvs.map fun kv => kV kv.1)))
theorem call_listP (hc : X.calm = true) (h : X.K = K) : CallR X (.type "list") (kListP K) := h ▸ call_list_of.or (call_listD hc)
theorem pr_keys {ws : List (Key × V)} {kvs : List (Key × D)} (h : PR K H π ws kvs) : VRs K H π (ws.map fun kv => kV kv.1) (kvs.map fun p => D.ofKey p.1) := by
  induction h with
  | nil => exact .nil
  | @cons k v vs d ds h r ih => cases k <;> exact .cons (by first | exact .int _ | exact .str _) ih
theorem cs_list (hK : K = c.K) : CaS c (kListP K) bList := by
  intro W σ H π S x dx Q s rx q
  subst hK
  unfold bList at q
  split at q
  · obtain ⟨v, rfl, r⟩ := vrs1 rx
    obtain ⟨a, rfl, hl⟩ := r.refI
    split at q
    · rename_i ds hS
      obtain ⟨xs, h1, h2⟩ := s.at_ _ _ _ hl hS
      exact .inl ⟨a, xs, rfl, .inl (SqL.of h1), fun p hp => mk_lst s h2 hp q⟩
    · rename_i kvs hS
      obtain ⟨ws, h1, h2⟩ := s.at_ _ _ _ hl hS
      exact .inr ⟨a, ws, rfl, .inl h1, fun p hp => mk_lst s (pr_keys h2) hp q⟩
    · exact q.elim
  · rename_i d n1
    obtain ⟨v, rfl, r⟩ := vrs1 rx
    split at q
    · rename_i ds hd
      cases r with
      | tup h r => cases hd; exact .inl ⟨_, _, rfl, .inr (SqT.of h), fun p hp => mk_lst s r hp q⟩
      | ktu h r => cases hd; exact .inl ⟨_, _, rfl, .inr h, fun p hp => mk_lst s r hp q⟩
      | lsf h r => cases hd; exact .inl ⟨_, _, rfl, .inl h.l, fun p hp => mk_lst s r hp q⟩
      | ref h => exact absurd rfl (n1 _)
      | _ => cases hd
    · exact q.elim
  · exact q.elim
theorem VRs.bools : ∀ {vs : List V} {ds : List D} {bs : List Bool}, VRs K H π vs ds → allSome D.bool ds = some bs → vs = bs.map V.bl
  | _, _, _, .nil, e => by cases e; rfl
  | _, _, _, .cons h r, e => by
    unfold allSome at e
    split at e
    · rename_i b bs h1 h2; cases e; rw [r.bools h2]; cases h <;> cases h1; rfl
    · cases e
def kAllP (K : PySem.W.Frag) : List V → Hp → VK → Prop := rAll K
theorem call_allP (hc : X.calm = true) (h : X.K = K) : CallR X (.builtin "all") (kAllP K) := h ▸ cr_all hc
theorem cs_all (hK : K = c.K) : CaS c (kAllP K) bAll := by
  intro W σ H π S x dx Q s rx q
  subst hK
  unfold bAll at q
  split at q
  · obtain ⟨v, rfl, r⟩ := vrs1 rx
    obtain ⟨a, rfl, hl⟩ := r.refI
    split at q
    · rename_i ds hS
      obtain ⟨xs, h1, h2⟩ := s.at_ _ _ _ hl hS
      split at q
      · rename_i bs hb
        rw [h2.bools hb] at h1
        exact ⟨a, bs, rfl, SqL.of h1, q _ _ _ Ext.refl s (.bl _)⟩
      · exact q.elim
    · exact q.elim
  · exact q.elim
end
inductive Ty where
  | int | bool | str | tuple | list | dict
def Ty.n : Ty → String
  | .int => "int" | .bool => "bool" | .str => "str" | .tuple => "tuple" | .list => "list" | .dict => "dict"
/-- the kind of a value: none: NoneType -/
inductive Kd where
  | non | ty (t : Ty) | own (C : Nat)
def D.kd (d : D) (S : Sto) : Option Kd := match d with
  | .non => some .non
  | .bl _ => some (.ty .bool)
  | .int _ => some (.ty .int)
  | .str _ => some (.ty .str)
  | .tup _ => some (.ty .tuple)
  | .ktu _ => some (.ty .tuple)
  | .lsf _ => some (.ty .list)
  | .ref l => match S[l]? with
    | some (.lst _) => some (.ty .list)
    | some (.dic _) => some (.ty .dict)
    | some (.dit _) => some (.ty .dict)
    | some (.lok _) => some (.ty .dict)
    | some (.obj C _) => some (.own C)
    | none => none
def Ty.le : Ty → Ty → Bool
  | .int, .int => true | .bool, .bool => true | .bool, .int => true | .str, .str => true | .tuple, .tuple => true | .list, .list => true | .dict, .dict => true
  | _, _ => false
def isiTy (t : Ty) (d : D) (S : Sto) : Res D := match d.kd S with
  | some .non => .ok (.bl false) S
  | some (.ty u) => .ok (.bl (u.le t)) S
  | _ => .no
def isiOwn (C : Nat) (os : List Nat) (d : D) (S : Sto) : Res D := match d.kd S with
  | some .non => .ok (.bl false) S
  | some (.ty u) => .ok (.bl false) S
  | some (.own C') => if C' = C then .ok (.bl true) S else if C' ∈ os then .ok (.bl false) S else .no
  | none => .no
/-- isinstance(x, (T1, T2, ..)) -/
def isiTys (ts : List Ty) (d : D) (S : Sto) : Res D := match d.kd S with
  | some .non => .ok (.bl false) S
  | some (.ty u) => .ok (.bl (ts.any fun t => u.le t)) S
  | _ => .no
section
variable {c : EC} {X : Cx} {K : PySem.W.Frag} {H : Hp} {π : List Addr} {S : Sto} {W : WX} {ex : Expr} {fa : Ex}
def Kd.v (cl : Nat → Addr) : Kd → Value
  | .non => .type "NoneType"
  | .ty t => .type t.n
  | .own C => .ref (cl C)
theorem sqT_ty {a : Addr} {xs : List V} (h : SqT K H a xs) : TyX K H (.ref a) (.type "tuple") := by
  rcases h with (h | ⟨o, h⟩) | ⟨o, its, n, h, hc, _⟩
  · exact .base (.tup h)
  · exact .fTuple h
  · exact .kTuple h hc
theorem sqF_ty {a : Addr} {xs : List V} (h : SqF K H a xs) : TyX K H (.ref a) (.type "list") := by
  rcases h with ⟨o, h⟩ | ⟨o, its, n, h, hc, _⟩
  · exact .base (.frz h)
  · exact .kList h hc
theorem kd_ty {v : V} {d : D} {k : Kd} (s : SR K c.cl H π S) (hi : ∀ C, k = .own C → IsiC K (c.cl C)) (r : VR K H π v d) (e : d.kd S = some k) : TyX K H v (k.v c.cl) := by
  cases r with
  | non => cases e; exact .base .non
  | bl b => cases e; exact .base (.bl _)
  | int b => cases e; exact .base (.int _)
  | str b => cases e; exact .base (.str _)
  | tup h r => cases e; exact .base (.tup h)
  | ktu h r => cases e; exact sqT_ty h
  | lsf h r => cases e; exact sqF_ty h
  | ref hl =>
    unfold D.kd at e
    dsimp only at e
    split at e
    · rename_i hS; cases e; obtain ⟨_, h1, _⟩ := s.at_ _ _ _ hl hS; exact .base (.lst h1)
    · rename_i hS; cases e; obtain ⟨_, h1, _⟩ := s.at_ _ _ _ hl hS; exact .base (.dK h1)
    · rename_i hS; cases e; obtain ⟨_, h1, _⟩ := s.at_ _ _ _ hl hS; exact .base (.dT h1)
    · rename_i hS; cases e; obtain ⟨_, _, h1, _⟩ := s.at_ _ _ _ hl hS; exact .fDict h1
    · rename_i C fs hS
      cases e
      obtain ⟨_, _, h1, _⟩ := s.at_ _ _ _ hl hS
      have T := hi C rfl
      exact .base (.ins h1 T.cl T.ha T.hn T.htk T.hm)
    · cases e
theorem ty_le {u t : Ty} : kitB u.n t.n = some (u.le t) := by cases u <;> cases t <;> decide +kernel
theorem non_le {t : Ty} : kitB "NoneType" t.n = some false := by cases t <;> decide +kernel
theorem ev_isi {t : Ty} (h : PE X ex (tCB (rIsi K) (tCons (EvT c W fa) (tCons (tC (.ty t.n)) tNil)))) (hK : K = c.K) : PE X ex (EvT c W (eU (isiTy t) fa)) := h.weak fun σ H Q ⟨e, S, π, ev, q⟩ =>
  ⟨e, S, π, ev, (run_bind (rel := rV c) q).mono fun x H1 ⟨d, S1, π1, e1, s1, rx, q1⟩ => by
    subst hK
    unfold isiTy at q1
    split at q1
    · rename_i hk
      exact ⟨x, _, _, _, _, rfl, .ty _, kd_ty s1 (fun C z => by cases z) rx hk, kit_ty non_le, q1 _ _ _ Ext.refl s1 (.bl _)⟩
    · rename_i u hk
      exact ⟨x, _, _, _, _, rfl, .ty _, kd_ty s1 (fun C z => by cases z) rx hk, kit_ty ty_le, q1 _ _ _ Ext.refl s1 (.bl _)⟩
    · exact q1.elim⟩
theorem ev_isiOwn {C : Nat} {os : List Nat} (h : PE X ex (tCB (rIsi K) (tCons (EvT c W fa) (tCons (tC (.ref (c.cl C))) tNil)))) (hK : K = c.K) (hC : IsiC c.K (c.cl C))
    (hO : ∀ C' ∈ os, IsiC c.K (c.cl C') ∧ PySem.W.kitOne c.K (.ref (c.cl C')) (.ref (c.cl C)) = some false)
    (hT : PySem.W.kitOne c.K (.type "NoneType") (.ref (c.cl C)) = some false ∧ ∀ t : Ty, PySem.W.kitOne c.K (.type t.n) (.ref (c.cl C)) = some false) : PE X ex (EvT c W (eU (isiOwn C os) fa)) := h.weak fun σ H Q ⟨e, S, π, ev, q⟩ =>
  ⟨e, S, π, ev, (run_bind (rel := rV c) q).mono fun x H1 ⟨d, S1, π1, e1, s1, rx, q1⟩ => by
    subst hK
    unfold isiOwn at q1
    split at q1
    · rename_i hk
      exact ⟨x, _, _, _, _, rfl, .own _, kd_ty s1 (fun C z => by cases z) rx hk, hT.1, q1 _ _ _ Ext.refl s1 (.bl _)⟩
    · rename_i u hk
      exact ⟨x, _, _, _, _, rfl, .own _, kd_ty s1 (fun C z => by cases z) rx hk, hT.2 u, q1 _ _ _ Ext.refl s1 (.bl _)⟩
    · rename_i C' hk
      split at q1
      · rename_i e; subst e
        exact ⟨x, _, _, _, _, rfl, .own _, kd_ty s1 (fun C z => by cases z; exact hC) rx hk, hC.kit, q1 _ _ _ Ext.refl s1 (.bl _)⟩
      · split at q1
        · rename_i hm
          exact ⟨x, _, _, _, _, rfl, .own _, kd_ty s1 (fun C z => by cases z; exact (hO _ hm).1) rx hk, (hO _ hm).2, q1 _ _ _ Ext.refl s1 (.bl _)⟩
        · exact q1.elim
    · exact q1.elim⟩
/-- the classes of a displayed tuple -/
def tTys : List Ty → TA
  | [] => tNil
  | t :: ts => tCons (tC (.ty t.n)) (tTys ts)
theorem tTys_at {σ : L2.St} {H : Hp} : ∀ {ts : List Ty} {Q : List V → Hp → Prop}, Q (ts.map fun t => .ty t.n) H → tTys ts σ H Q
  | [], Q, q => q
  | t :: ts, Q, q => tTys_at (ts := ts) (Q := fun xs H2 => Q (.ty t.n :: xs) H2) q
theorem tys_cls : ∀ {ts : List Ty}, Paired ClsV (ts.map fun t => V.ty t.n) (ts.map fun t => Value.type t.n)
  | [] => .nil
  | t :: ts => .cons (.ty _) tys_cls
theorem kitAny_tys {K : PySem.W.Frag} {u : Value} {f : Ty → Bool} (h : ∀ t, PySem.W.kitOne K u (.type t.n) = some (f t)) : ∀ {ts : List Ty}, PySem.W.kitAny K u (ts.map fun t => .type t.n) = some (ts.any f)
  | [] => rfl
  | t :: ts => kitAny_cons (h t) (fun e => by rw [kitAny_tys h, List.any_cons, e]; rfl) fun e => by rw [List.any_cons, e]; rfl
theorem ev_isiTys {ts : List Ty} (h : PE X ex (tCB (rIsiT K) (tCons (EvT c W fa) (tCons (tTup (tTys ts)) tNil)))) (hK : K = c.K) (hl : ts.length ≤ 100000 := by decide) : PE X ex (EvT c W (eU (isiTys ts) fa)) := h.weak fun σ H Q ⟨e, S, π, ev, q⟩ =>
  ⟨e, S, π, ev, (run_bind (rel := rV c) q).mono fun x H1 ⟨d, S1, π1, e1, s1, rx, q1⟩ => tTys_at ⟨lim_size (by rw [List.length_map]; exact hl), fun p hp => by
    subst hK
    have s2 := s1.new (o := .tup (ts.map fun t => .ty t.n)) hp
    have rx2 := rx.ext (Ext.new (o := .tup (ts.map fun t => .ty t.n)) hp)
    have fin : ∀ b, Run c W (rV c) σ H1 π1 (.ok (.bl b) S1) Q → Q (.bl b) (upd H1 p (.tup (ts.map fun t => .ty t.n))) := fun b q => q _ _ _ (Ext.new hp) s2 (.bl b)
    unfold isiTys at q1
    split at q1
    · rename_i hk
      refine ⟨x, p, _, _, _, false, rfl, upd_same, tys_cls, kd_ty s2 (fun C z => by cases z) rx2 hk, ?_, fin _ q1⟩
      have := kitAny_tys (K := c.K) (f := fun _ => false) (u := Kd.v c.cl .non) (fun t => kit_ty non_le) (ts := ts)
      rw [this]; simp
    · rename_i u hk
      exact ⟨x, p, _, _, _, _, rfl, upd_same, tys_cls, kd_ty s2 (fun C z => by cases z) rx2 hk, kitAny_tys (fun t => kit_ty ty_le), fin _ q1⟩
    · exact q1.elim⟩⟩
end
end Pu
namespace Pu
open L2 PySem PySem.Spec PyProof.Rows Lb
abbrev ec (K : PySem.W.Frag) (cl : Nat → Addr) : EC := ⟨K, cl, []⟩
abbrev wE (E : XK) : WX := fun cls d _ H => E cls d H
def FnP (K : PySem.W.Frag) (cl : Nat → Addr) (p : Nat) (F : List D → Sto → Res D) : Sp := fun vs H Q E => ∃ (_ : vs.length = p) (ds : List D) (S : Sto) (π : List Addr), SR K cl H π S ∧ VRs K H π vs ds ∧ Run (ec K cl) (wE E) (rV (ec K cl)) [] H π (F ds S) Q
def envS (n : Nat) (ds : List D) : Env := ds.map (fun d => some (.v d)) ++ List.replicate (n - ds.length) none
def endS (o : Out) : Res D := match o with
  | .nx _ S => .ok .non S
  | .rt d S => .ok d S
  | .er C x _ S => .er C x S
  | _ => .no
def fnS (n : Nat) (g : Sx) (ds : List D) (S : Sto) : Res D := endS (g (envS n ds) S)
section
variable {K : PySem.W.Frag} {cl : Nat → Addr} {c : EC} {X : Cx} {W : WX} {ex : Expr} {exs : List Expr} {fa fb fo : Ex} {aa : Ax} {F : List D → Sto → Res D} {H : Hp} {π : List Addr} {S : Sto}
theorem env_start {N : List Str} {vs : List V} {ds : List D} (hl : vs.length ≤ N.length) (s : SR K cl H π S) (r : VRs K H π vs ds) : EnvR (ec K cl) (L2.start N vs) H (envS N.length ds) S π where
  sr := s
  len := by unfold L2.start envS; simp [r.len]
  sl := fun i d q => by
    unfold envS at q
    by_cases hi : i < ds.length
    · rw [List.getElem?_append_left (by simpa using hi), List.getElem?_map] at q
      cases e : ds[i]? with
      | none => rw [e] at q; cases q
      | some d' =>
        rw [e] at q
        cases q
        obtain ⟨v, h1, h2⟩ := r.get e
        refine ⟨v, ?_, h2⟩
        unfold L2.start
        rw [List.getElem?_append_left (by rw [List.length_map, r.len]; exact hi), List.getElem?_map, h1]; rfl
    · rw [List.getElem?_append_right (by simpa using hi)] at q
      obtain ⟨_, q⟩ := List.getElem?_eq_some_iff.mp q
      rw [List.getElem_replicate] at q
      cases q
  xs := fun k x q => by cases q
theorem fn_body {N : List Str} {n p : Nat} {g : Sx} {vs : List V} {Q : VK} {E : XK} (hn : N.length = n) (hp : p ≤ n) (h : FnP K cl p (fnS n g) vs H Q E) :
    StT (ec K cl) (wE E) g { nx := fun _ H' => Q .non H', rt := Q } (L2.start N vs) H := by
  obtain ⟨hl, ds, S, π, s, r, q⟩ := h
  subst hn
  refine ⟨_, S, π, env_start (by omega) s r, ?_⟩
  unfold fnS endS at q
  revert q
  cases g (envS N.length ds) S with
  | nx e S' => exact fun q σ' H' π' x ev => q .non H' π' x ev.sr .non
  | rt d S' => exact fun q v H' π' x s r => q v H' π' x s r
  | er C x e S' => exact fun q σ' H' π' dd y ev xr => q H' π' dd y ev.sr xr
  | bk e S' => exact fun q => q.elim
  | ct e S' => exact fun q => q.elim
  | no => exact fun q => q.elim
theorem fn_len {p : Nat} : ∀ vs H Q E, FnP K cl p F vs H Q E → vs.length = p := fun _ _ _ _ h => h.1
theorem fnP_of {σ : L2.St} {p : Nat} {vs : List V} {ds : List D} {Q : VK} (s : SR c.K c.cl H π S) (r : VRs c.K H π vs ds) (hl : vs.length = p) (q : Run c W (rV c) σ H π (F ds S) Q) : FnP c.K c.cl p F vs H Q (WE W σ) := by
  refine ⟨hl, ds, S, π, s, r, ?_⟩
  revert q
  cases F ds S with
  | ok d S' => exact fun q => q
  | er C x S' => exact fun q => q
  | no => exact fun q => q
/-- the number of arguments that are written -/
def eF (p : Nat) (F : List D → Sto → Res D) (a : Ax) : Ex := fun e S => (a e S).bind fun ds S1 => if ds.length = p then F ds S1 else .no
theorem ev_f {p : Nat} (h : PE X ex (tCallX (FnP c.K c.cl p F) (WE W) (ArT c W aa))) : PE X ex (EvT c W (eF p F aa)) := h.weak fun σ H Q ⟨e, S, π, ev, q⟩ =>
  ⟨e, S, π, ev, (run_bind (rel := rVs c) q).mono fun vs H1 ⟨ds, S1, π1, e1, s1, rs, q1⟩ => by
    split at q1
    · rename_i hl; exact fnP_of s1 rs (by rw [rs.len]; exact hl) q1
    · exact q1.elim⟩
/-- o.m(..) -/
def isObj (C : Nat) (m : Str) (o : D) (S : Sto) : Bool := match o with
  | .ref l => (match S[l]? with
    | some (.obj C' fs) => decide (C' = C) && (lkF m fs).isNone
    | _ => false)
  | _ => false
def eM (C : Nat) (m : Str) (p : Nat) (F : List D → Sto → Res D) (o : Ex) (a : Ax) : Ex := fun e S => (o e S).bind fun x S1 => if isObj C m x S1 = true then (a e S1).bind fun ds S2 => if ds.length + 1 = p then F (x :: ds) S2 else .no else .no
theorem isObj_at {C : Nat} {m : Str} {x : V} {o : D} (s : SR c.K c.cl H π S) (r : VR c.K H π x o) (h : isObj C m o S = true) : ∃ a dx fs, x = .ref a ∧ H a = some (.ins (c.cl C) dx fs) ∧ fs.lookup m = none := by
  unfold isObj at h
  split at h
  · obtain ⟨a, rfl, hl⟩ := r.refI
    split at h
    · rename_i C' fs hS
      rw [Bool.and_eq_true, decide_eq_true_eq] at h
      obtain ⟨rfl, h2⟩ := h
      obtain ⟨dx, gs, h3, h4⟩ := s.at_ _ _ _ hl hS
      exact ⟨a, dx, gs, rfl, h3, (pr_lookup h4).2 (by simpa using h2)⟩
    · cases h
  · cases h
theorem ev_m {C p : Nat} {m : Str} (h : PE X ex (tMethX (c.cl C) m (FnP c.K c.cl p F) (WE W) (EvT c W fo) (ArT c W aa))) : PE X ex (EvT c W (eM C m p F fo aa)) := h.weak fun σ H Q ⟨e, S, π, ev, q⟩ =>
  ⟨e, S, π, ev, (run_bind (rel := rV c) q).mono fun x H1 ⟨o, S1, π1, e1, s1, rx, q1⟩ => by
    split at q1
    · rename_i ho
      obtain ⟨a, dx, fs, rfl, h1, h2⟩ := isObj_at s1 rx ho
      refine ⟨a, dx, fs, rfl, h1, h2, e, S1, π1, ev.ext e1 s1, (run_bind (rel := rVs c) q1).mono fun vs H2 ⟨ds, S2, π2, e2, s2, rs, q2⟩ => ?_⟩
      split at q2
      · rename_i hl; exact fnP_of s2 (.cons (rx.ext e2) rs) (by rw [List.length_cons, rs.len]; exact hl) q2
      · exact q2.elim
    · exact q1.elim⟩
theorem ev_m0 {C p : Nat} {m : Str} (h : PE X ex (tMethX (c.cl C) m (FnP c.K c.cl p F) (WE W) (EvT c W fo) tNil)) : PE X ex (EvT c W (eM C m p F fo aN)) := h.weak fun σ H Q ⟨e, S, π, ev, q⟩ =>
  ⟨e, S, π, ev, (run_bind (rel := rV c) q).mono fun x H1 ⟨o, S1, π1, e1, s1, rx, q1⟩ => by
    split at q1
    · rename_i ho
      obtain ⟨a, dx, fs, rfl, h1, h2⟩ := isObj_at s1 rx ho
      refine ⟨a, dx, fs, rfl, h1, h2, ?_⟩
      unfold aN Res.bind at q1
      dsimp only at q1
      split at q1
      · rename_i hl; exact fnP_of s1 (.cons rx .nil) hl q1
      · exact q1.elim
    · exact q1.elim⟩
/-- C(..) -/
def mkO (C p : Nat) (F : List D → Sto → Res D) (ds : List D) (S : Sto) : Res D := if ds.length + 1 = p then (match F (.ref S.length :: ds) (S ++ [.obj C []]) with
  | .ok .non S2 => .ok (.ref S.length) S2
  | .er C x S2 => .er C x S2
  | _ => .no) else .no
theorem mk_at {C p : Nat} {σ : L2.St} {vs : List V} {ds : List D} {Q : VK} (s : SR c.K c.cl H π S) (r : VRs c.K H π vs ds) (q : Run c W (rV c) σ H π (mkO C p F ds S) Q) :
    ∀ x dx, H x = none → H dx = none → dx ≠ x → FnP c.K c.cl p F (.ref x :: vs) (upd (upd H dx (.own x)) x (.ins (c.cl C) dx [])) (fun v H2 => v = .non ∧ Q (.ref x) H2) (WE W σ) := by
  intro x dx hx hdx ne
  unfold mkO at q
  split at q
  · rename_i hp
    have hx' : (upd H dx (.own x)) x = none := by rw [upd_ne (fun z => ne z.symm)]; exact hx
    have e : Ext H π (upd (upd H dx (.own x)) x (.ins (c.cl C) dx [])) (π ++ [x]) := (Ext.new hdx).trans (Ext.push hx')
    have s' : SR c.K c.cl (upd (upd H dx (.own x)) x (.ins (c.cl C) dx [])) (π ++ [x]) (S ++ [.obj C []]) := (s.new hdx).push hx' ⟨dx, [], upd_same, .nil⟩
    refine ⟨by rw [List.length_cons, r.len]; exact hp, .ref S.length :: ds, _, _, s', .cons (.ref (by rw [← s.len]; simp)) (r.ext e), ?_⟩
    revert q
    cases F (.ref S.length :: ds) (S ++ [.obj C []]) with
    | ok d S' =>
      cases d with
      | non =>
        refine fun q v H' π' x' s2 r2 => ⟨r2.nonI, q _ H' π' (e.trans x') s2 (.ref (x'.get ?_))⟩
        rw [← s.len]; simp
      | _ => exact fun q => q.elim
    | er C x S' => exact fun q H' π' dd y s3 xr => q H' π' dd (e.trans y) s3 xr
    | no => exact fun q => q.elim
  · exact q.elim
theorem ev_mk {C p : Nat} (h : PE X ex (tMakeX (c.cl C) (FnP c.K c.cl p F) (WE W) (ArT c W aa))) : PE X ex (EvT c W (eK (mkO C p F) aa)) := h.weak fun σ H Q ⟨e, S, π, ev, q⟩ =>
  ⟨e, S, π, ev, (run_bind (rel := rVs c) q).mono fun vs H1 ⟨ds, S1, π1, e1, s1, rs, q1⟩ => mk_at s1 rs q1⟩
theorem ev_mk0 {C p : Nat} (h : PE X ex (tMakeX (c.cl C) (FnP c.K c.cl p F) (WE W) tNil)) : PE X ex (EvT c W (eK (mkO C p F) aN)) := h.weak fun σ H Q ⟨e, S, π, ev, q⟩ => mk_at ev.sr .nil q
end
def isLst (o : D) (S : Sto) : Bool := match o with
  | .ref l => (match S[l]? with | some (.lst _) => true | _ => false)
  | _ => false
def eBm (ty : D → Sto → Bool) (F : D → List D → Sto → Res D) (o : Ex) (a : Ax) : Ex := fun e S => (o e S).bind fun x S1 => if ty x S1 = true then (a e S1).bind fun ds S2 => F x ds S2 else .no
def mAppend (o : D) (xs : List D) (S : Sto) : Res D := match o, xs with
  | .ref l, [d] => (match S[l]? with | some (.lst ds) => if ds.length < 100000 then .ok .non (S.set l (.lst (ds ++ [d]))) else .no | _ => .no)
  | _, _ => .no
def mExtend (o : D) (xs : List D) (S : Sto) : Res D := match o, xs with
  | .ref l, [.ref m] => (match S[l]?, S[m]? with | some (.lst ds), some (.lst es) => if ds.length + es.length ≤ 100000 then .ok .non (S.set l (.lst (ds ++ es))) else .no | _, _ => .no)
  | _, _ => .no
def getS (o k : D) (S : Sto) : Option (Option D) := match o with
  | .ref l => (match S[l]? with | some ob => dgetD ob k | none => none)
  | _ => none
def isDct (o : D) (S : Sto) : Bool := match o with
  | .ref l => (match S[l]? with | some (.dic _) => true | some (.dit _) => true | some (.lok _) => true | _ => false)
  | _ => false
/-- d.get(k), d.get(k, x) -/
def eGet1 (o a : Ex) : Ex := fun e S => (o e S).bind fun d S1 => if isDct d S1 = true then (a e S1).bind fun k S2 => match getS d k S2 with | some r => .ok (r.getD .non) S2 | none => .no else .no
def eGet2 (o a b : Ex) : Ex := fun e S => (o e S).bind fun d S1 => if isDct d S1 = true then (a e S1).bind fun k S2 => (b e S2).bind fun x S3 => match getS d k S3 with | some r => .ok (r.getD x) S3 | none => .no else .no
section
variable {K : PySem.W.Frag} {c : EC} {X : Cx} {W : WX} {ex : Expr} {fa fb fo : Ex} {aa : Ax} {H : Hp} {π : List Addr} {S : Sto}
abbrev TyS (c : EC) (T : String) (ty : D → Sto → Bool) : Prop := ∀ {H : Hp} {π : List Addr} {S : Sto} {x : V} {o : D}, SR c.K c.cl H π S → VR c.K H π x o → ty o S = true → tyV c.K T x H
abbrev MeS (c : EC) (r : V → List V → Hp → VK → Prop) (F : D → List D → Sto → Res D) : Prop := ∀ {W : WX} {σ : L2.St} {H : Hp} {π : List Addr} {S : Sto} {x : V} {o : D} {xs : List V} {ds : List D} {Q : VK}, SR c.K c.cl H π S → VR c.K H π x o → VRs c.K H π xs ds → Run c W (rV c) σ H π (F o ds S) Q → r x xs H Q
theorem ev_bm {T : String} {r : V → List V → Hp → VK → Prop} {ty : D → Sto → Bool} {F : D → List D → Sto → Res D} (h : PE X ex (tBM K T r (EvT c W fo) (ArT c W aa))) (hK : K = c.K) (ht : TyS c T ty) (hr : MeS c r F) : PE X ex (EvT c W (eBm ty F fo aa)) := h.weak fun σ H Q ⟨e, S, π, ev, q⟩ =>
  ⟨e, S, π, ev, (run_bind (rel := rV c) q).mono fun x H1 ⟨o, S1, π1, e1, s1, rx, q1⟩ => by
    subst hK
    split at q1
    · rename_i ho
      exact ⟨ht s1 rx ho, e, S1, π1, ev.ext e1 s1, (run_bind (rel := rVs c) q1).mono fun vs H2 ⟨ds, S2, π2, e2, s2, rs, q2⟩ => hr s2 (rx.ext e2) rs q2⟩
    · exact q1.elim⟩
theorem ty_lst : TyS c "list" isLst := by
  intro H π S x o s r h
  unfold isLst at h
  split at h
  · obtain ⟨a, rfl, hl⟩ := r.refI
    split at h
    · rename_i ds hS
      obtain ⟨xs, h1, _⟩ := s.at_ _ _ _ hl hS
      exact Or.inl ⟨rfl, xs, SqL.of h1⟩
    · cases h
  · cases h
theorem put_lst {σ : L2.St} {l : Nat} {a : Addr} {xs ys : List V} {ds : List D} {Q : VK} {v : V} {d : D} (s : SR c.K c.cl H π S) (hl : π[l]? = some a) (h1 : H a = some (.lst xs)) (r : VRs c.K H π ys ds) (rv : VR c.K H π v d)
    (q : Run c W (rV c) σ H π (.ok d (S.set l (.lst ds))) Q) : Q v (upd H a (.lst ys)) := by
  have mu : Mut (H a) := by rw [h1]; trivial
  have e : Ext H π (upd H a (.lst ys)) π := Ext.put (List.mem_of_getElem? hl) mu
  exact q v _ π e (s.put hl mu ⟨ys, upd_same, r.ext e⟩) (rv.ext e)
theorem ms_append : MeS c rAppend mAppend := by
  intro W σ H π S x o xs ds Q s rx rs q
  unfold mAppend at q
  split at q
  · obtain ⟨a, rfl, hl⟩ := rx.refI
    obtain ⟨v, rfl, rv⟩ := vrs1 rs
    split at q
    · rename_i ds hS
      split at q
      · rename_i hz
        obtain ⟨ys, h1, h2⟩ := s.at_ _ _ _ hl hS
        exact ⟨a, ys, v, rfl, rfl, h1, Nat.lt_of_lt_of_le (by rw [h2.len]; exact hz) (lim_size (Nat.le_refl _)), put_lst s hl h1 (h2.append (.cons rv .nil)) .non q⟩
      · exact q.elim
    · exact q.elim
  · exact q.elim
theorem ms_extend : MeS c rExtend mExtend := by
  intro W σ H π S x o xs ds Q s rx rs q
  unfold mExtend at q
  split at q
  · obtain ⟨a, rfl, hl⟩ := rx.refI
    obtain ⟨v, rfl, rv⟩ := vrs1 rs
    obtain ⟨b, rfl, hm⟩ := rv.refI
    split at q
    · rename_i ds es hS hT
      split at q
      · rename_i hz
        obtain ⟨ys, h1, h2⟩ := s.at_ _ _ _ hl hS
        obtain ⟨zs, h3, h4⟩ := s.at_ _ _ _ hm hT
        exact ⟨a, b, ys, zs, rfl, rfl, h1, h3, lim_size (by rw [h2.len, h4.len]; exact hz), put_lst s hl h1 (h2.append h4) .non q⟩
      · exact q.elim
    · exact q.elim
  · exact q.elim
end
def sNext : Sx := fun e S => .nx e S
def Out.seq (o : Out) (g : Sx) : Out := match o with
  | .nx e S => g e S
  | o => o
def sSeq (f g : Sx) : Sx := fun e S => (f e S).seq g
def sBk : Sx := fun e S => .bk e S
def sCt : Sx := fun e S => .ct e S
def sDrop (a : Ex) : Sx := fun e S => (a e S).st e fun _ S1 => .nx e S1
def sRet (a : Ex) : Sx := fun e S => (a e S).st e fun d S1 => .rt d S1
def sRetN : Sx := fun _ S => .rt .non S
def sIf (t : Bx) (f g : Sx) : Sx := fun e S => (t e S).st e fun k S1 => if k = true then f e S1 else g e S1
def sSet (i : Nat) (a : Ex) : Sx := fun e S => (a e S).st e fun d S1 => .nx (e.set i (some (.v d))) S1
/-- targets -/
inductive Pat where
  | nm (i : Nat) | tp (is : List Nat)
def setAll : List Nat → List D → Env → Env
  | i :: is, d :: ds, e => setAll is ds (e.set i (some (.v d)))
  | _, _, e => e
def Pat.bind (p : Pat) (d : D) (e : Env) : Option Env := match p with
  | .nm i => some (e.set i (some (.v d)))
  | .tp is => match d with
    | .tup ds => if ds.length = is.length then some (setAll is ds e) else none
    | .ktu ds => if ds.length = is.length then some (setAll is ds e) else none
    | _ => none
def Pat.slots : Pat → List Nat
  | .nm i => [i]
  | .tp is => is
def sAsg (p : Pat) (a : Ex) : Sx := fun e S => (a e S).st e fun d S1 => match p.bind d e with | some e1 => .nx e1 S1 | none => .no
/-- x, y = a, b -/
def sPar (i j : Nat) (a : Ax) : Sx := fun e S => (a e S).st e fun ds S1 => match ds with
  | [x, y] => .nx ((e.set i (some (.v x))).set j (some (.v y))) S1
  | _ => .no
def putF' (f : Str) (d : D) : List (Str × D) → List (Str × D)
  | [] => [(f, d)]
  | p :: r => if p.1 = f then (p.1, d) :: r else p :: putF' f d r
def fputD (cs : List Nat) (f : Str) (x d : D) (S : Sto) : Option Sto := match x with
  | .ref l => (match S[l]? with
    | some (.obj C fs) => if C ∈ cs ∧ fs.length < 1000 then some (S.set l (.obj C (putF' f d fs))) else none
    | _ => none)
  | _ => none
/-- o.f = a -/
def sFldP (cs : List Nat) (f : Str) (o a : Ex) : Sx := fun e S => (a e S).st e fun d S1 => (o e S1).st e fun x S2 => match fputD cs f x d S2 with | some S3 => .nx e S3 | none => .no
def setS (x i d : D) (S : Sto) : Option Sto := match x with
  | .ref l => (match S[l]? with
    | some (.lst ds) => (match i with | .int n => (match ixN ds.length n with | some j => some (S.set l (.lst (ds.set j d))) | none => none) | _ => none)
    | some (.dic kvs) => (match i.key with | some k => if kvs.length < 100000 then some (S.set l (.dic (putD kvs k d))) else none | none => none)
    | some (.dit kvs) => (match i.tkey with | some k => if kvs.length < 100000 then some (S.set l (.dit (putD kvs k d))) else none | none => none)
    | _ => none)
  | _ => none
/-- o[i] = a -/
def sSub (o i a : Ex) : Sx := fun e S => (a e S).st e fun d S1 => (o e S1).st e fun x S2 => (i e S2).st e fun k S3 => match setS x k d S3 with | some S4 => .nx e S4 | none => .no
section
variable {K : PySem.W.Frag} {c : EC} {X : Cx} {W : WX} {st : Stmt} {sts : List Stmt} {fa fo fi : Ex} {aa : Ax} {tb : Bx} {f g : Sx} {H : Hp} {π : List Addr} {S : Sto}
theorem ss_nil (h : PSs X sts tNext) : PSs X sts (StT c W sNext) := h.weak fun D σ H ⟨e, S, π, ev, q⟩ => q σ H π Ext.refl ev
theorem runS_seq {o : Out} {D : Ends} (q : RunS c W H π (o.seq g) D) : RunS c W H π o { D with nx := StT c W g D } := by
  cases o with
  | nx e S' => exact fun σ' H' π' x ev => ⟨e, S', π', ev, RunS.ext q x⟩
  | rt d S' => exact q
  | bk e S' => exact q
  | ct e S' => exact q
  | er C y e S' => exact q
  | no => exact q
theorem ss_seq (h : PSs X sts (tSeq (StT c W f) (StT c W g))) : PSs X sts (StT c W (sSeq f g)) := h.weak fun D σ H ⟨e, S, π, ev, q⟩ => ⟨e, S, π, ev, runS_seq q⟩
theorem s_drop (h : PS X st (tDrop (EvT c W fa))) : PS X st (StT c W (sDrop fa)) := h.weak fun D σ H ⟨e, S, π, ev, q⟩ =>
  ⟨e, S, π, ev, (run_st (rel := rV c) ev q).mono fun x H1 ⟨d, S1, π1, e1, s1, rx, q1⟩ => q1 σ H1 π1 Ext.refl (ev.ext e1 s1)⟩
theorem s_ret (h : PS X st (tRet (EvT c W fa))) : PS X st (StT c W (sRet fa)) := h.weak fun D σ H ⟨e, S, π, ev, q⟩ =>
  ⟨e, S, π, ev, (run_st (rel := rV c) ev q).mono fun x H1 ⟨d, S1, π1, e1, s1, rx, q1⟩ => q1 x H1 π1 Ext.refl s1 rx⟩
theorem s_if (h : PS X st (tIfS (TsT c W tb) (StT c W f) (StT c W g))) : PS X st (StT c W (sIf tb f g)) := h.weak fun D σ H ⟨e, S, π, ev, q⟩ =>
  ⟨e, S, π, ev, (run_st (rel := rEq) ev q).mono fun k H1 ⟨b, S1, π1, e1, s1, rb, q1⟩ => by
    subst rb
    by_cases hk : k = true
    · rw [if_pos hk] at q1 ⊢; exact ⟨e, S1, π1, ev.ext e1 s1, q1⟩
    · rw [if_neg hk] at q1 ⊢; exact ⟨e, S1, π1, ev.ext e1 s1, q1⟩⟩
theorem s_set {i : Nat} (h : PS X st (tAsg (EvT c W fa) (gName i))) : PS X st (StT c W (sSet i fa)) := h.weak fun D σ H ⟨e, S, π, ev, q⟩ =>
  ⟨e, S, π, ev, (run_st (rel := rV c) ev q).mono fun x H1 ⟨d, S1, π1, e1, s1, rx, q1⟩ => q1 _ H1 π1 Ext.refl ((ev.ext e1 s1).set rx)⟩
theorem s_setLc {i : Nat} {t : TE} (h : PS X st (tAsg t (gName i))) (k : ∀ σ H Q, EvT c W fa σ H Q → t σ H Q) : PS X st (StT c W (sSet i fa)) := h.weak fun D σ H ⟨e, S, π, ev, q⟩ =>
  k σ H _ ⟨e, S, π, ev, (run_st (rel := rV c) ev q).mono fun x H1 ⟨d, S1, π1, e1, s1, rx, q1⟩ => q1 _ H1 π1 Ext.refl ((ev.ext e1 s1).set rx)⟩
def setσ : List Nat → List V → L2.St → L2.St
  | i :: is, v :: vs, σ => setσ is vs (σ.set i (some v))
  | _, _, σ => σ
structure PatR (c : EC) (g : TG) (p : Pat) : Prop where
  run : ∀ {σ : L2.St} {H : Hp} {e e' : Env} {S : Sto} {π : List Addr} {v : V} {d : D} {R : L2.St → Hp → Prop}, EnvR c σ H e S π → VR c.K H π v d → p.bind d e = some e' → (∀ vs, EnvR c (setσ p.slots vs σ) H e' S π → R (setσ p.slots vs σ) H) → g v σ H R
structure PatsR (c : EC) (g : TGs) (is : List Nat) : Prop where
  run : ∀ {σ : L2.St} {H : Hp} {e : Env} {S : Sto} {π : List Addr} {vs : List V} {ds : List D} {R : L2.St → Hp → Prop}, EnvR c σ H e S π → VRs c.K H π vs ds → ds.length = is.length → (EnvR c (setσ is vs σ) H (setAll is ds e) S π → R (setσ is vs σ) H) → g vs σ H R
theorem pat_nm {i : Nat} : PatR c (gName i) (.nm i) := ⟨fun {σ H e e' S π v d R} ev r hb k => by
  cases hb
  exact k [v] (ev.set r)⟩
theorem pats_nil : PatsR c gNil [] := ⟨fun {σ H e S π vs ds R} ev r hl k => by
  cases ds with
  | nil => obtain rfl := r.nilI; exact ⟨rfl, k ev⟩
  | cons d ds => cases hl⟩
theorem pats_cons {i : Nat} {is : List Nat} {t : TGs} (h : PatsR c t is) : PatsR c (gCons (gName i) t) (i :: is) := ⟨fun {σ H e S π vs ds R} ev r hl k => by
  cases ds with
  | nil => cases hl
  | cons d ds =>
    obtain ⟨v, us, rfl, h1, h2⟩ := r.consI
    exact ⟨v, us, rfl, h.run (ev.set h1) h2 (Nat.succ.inj hl) k⟩⟩
theorem pat_tp {is : List Nat} {n : Nat} {t : TGs} (h : PatsR c t is) (hK : K = c.K) (hn : n = is.length) : PatR c (gTup K n t) (.tp is) := ⟨fun {σ H e e' S π v d R} ev r hb k => by
  subst hK hn
  unfold Pat.bind at hb
  dsimp only at hb
  split at hb
  · obtain ⟨a, xs, rfl, h1, h2⟩ := r.tupI
    split at hb
    · rename_i hl
      cases hb
      exact ⟨a, xs, rfl, SqT.of h1, by rw [h2.len]; exact hl, h.run ev h2 hl (k xs)⟩
    · cases hb
  · obtain ⟨a, xs, rfl, h1, h2⟩ := r.ktuI
    split at hb
    · rename_i hl
      cases hb
      exact ⟨a, xs, rfl, h1, by rw [h2.len]; exact hl, h.run ev h2 hl (k xs)⟩
    · cases hb
  · cases hb⟩
theorem s_asg {p : Pat} {t : TG} (h : PS X st (tAsg (EvT c W fa) t)) (hp : PatR c t p) : PS X st (StT c W (sAsg p fa)) := h.weak fun D σ H ⟨e, S, π, ev, q⟩ =>
  ⟨e, S, π, ev, (run_st (rel := rV c) ev q).mono fun x H1 ⟨d, S1, π1, e1, s1, rx, q1⟩ => by
    split at q1
    · rename_i e2 hb
      exact hp.run (ev.ext e1 s1) rx hb fun vs ev2 => q1 _ _ _ Ext.refl ev2
    · exact q1.elim⟩
theorem pr_putF {f : Str} {v : V} {d : D} {gs : List (Str × V)} {fs : List (Str × D)} (h : PR K H π gs fs) (r : VR K H π v d) : PR K H π (putF f v gs) (putF' f d fs) := by
  induction h with
  | nil => exact .cons r .nil
  | @cons k v' vs d' ds h r' ih =>
    unfold putF putF'
    by_cases e : k = f
    · first
        | (rw [if_pos e, if_pos e]; exact .cons r r')
        | (simp only [e, if_true]; exact .cons r r')
    · first
        | (rw [if_neg e, if_neg e]; exact .cons h ih)
        | (simp only [e, if_false]; exact .cons h ih)
theorem s_fld {f : Str} {cs : List Nat} (h : PS X st (sFld K (EvT c W fo) (EvT c W fa) f)) (hK : K = c.K) (hc : ∀ C ∈ cs, Cls c.K (c.cl C) ∧ NoAttr c.K (c.cl C) f) : PS X st (StT c W (sFldP cs f fo fa)) := h.weak fun D σ H ⟨e, S, π, ev, q⟩ =>
  ⟨e, S, π, ev, (run_st (rel := rV c) ev q).mono fun x H1 ⟨d, S1, π1, e1, s1, rx, q1⟩ => ⟨e, S1, π1, ev.ext e1 s1, (run_st (rel := rV c) (ev.ext e1 s1) q1).mono fun y H2 ⟨o, S2, π2, e2, s2, ry, q2⟩ => by
    subst hK
    split at q2
    · rename_i S3 h3
      unfold fputD at h3
      split at h3
      · obtain ⟨a, rfl, hl⟩ := ry.refI
        split at h3
        · rename_i C fs hS
          split at h3
          · rename_i hC
            cases h3
            obtain ⟨dx, gs, h1, h2⟩ := s2.at_ _ _ _ hl hS
            have mu : Mut (H2 a) := by rw [h1]; trivial
            obtain ⟨k1, k2⟩ := hc C hC.1
            have ex : Ext H2 π2 (upd H2 a (.ins (c.cl C) dx (putF f x gs))) π2 := Ext.put (List.mem_of_getElem? hl) mu
            have s3 := s2.put (ob := .obj C (putF' f d fs)) (o := .ins (c.cl C) dx (putF f x gs)) hl mu ⟨dx, _, upd_same, (pr_putF h2 (rx.ext e2)).ext ex⟩
            exact ⟨a, _, dx, gs, rfl, h1, k1, k2, by rw [pr_len h2]; exact hC.2, q2 σ _ π2 ex (((ev.ext e1 s1).ext e2 s2).ext ex s3)⟩
          · cases h3
        · cases h3
      · cases h3
    · exact q2.elim⟩⟩
def setP : TSet := fun o i v H Q => L2.rSetL o i v H Q ∨ ∃ a H4, o = .ref a ∧ DPut H a i v H4 ∧ Q H4
theorem set_P (hu : X.A.units + 1 < cLine) : PSet X setP := by
  intro pins s σ H o i v ov iv u Q I ro ri rv h
  rcases h with h | ⟨a, H4, rfl, g, q⟩
  · exact set_list pins s σ H o i v ov iv u Q I ro ri rv h
  · cases ro
    exact d_setItem hu I g ri rv fun s4 I4 => ⟨H4, I4, q⟩
theorem set_at {x y v : V} {o i d : D} {S' : Sto} {R : Hp → Prop} (s : SR c.K c.cl H π S) (rx : VR c.K H π x o) (ry : VR c.K H π y i) (rv : VR c.K H π v d) (h : setS o i d S = some S')
    (k : ∀ H', Ext H π H' π → SR c.K c.cl H' π S' → R H') : setP x y v H R := by
  unfold setS at h
  split at h
  · obtain ⟨a, rfl, hl⟩ := rx.refI
    split at h
    · rename_i ds hS
      split at h
      · rename_i n
        split at h
        · rename_i j hj
          cases h
          obtain ⟨xs, h1, h2⟩ := s.at_ _ _ _ hl hS
          have mu : Mut (H a) := by rw [h1]; trivial
          have ex : Ext H π (upd H a (.lst (xs.set j v))) π := Ext.put (List.mem_of_getElem? hl) mu
          rw [ry.intI]
          exact .inl ⟨a, xs, n, j, rfl, rfl, h1, by rw [h2.len]; exact hj, k _ ex (s.put hl mu ⟨_, upd_same, (VRs.set rv j h2).ext ex⟩)⟩
        · cases h
      · cases h
    · rename_i kvs hS
      split at h
      · rename_i kk hk
        split at h
        · rename_i hz
          cases h
          obtain ⟨ws, h1, h2⟩ := s.at_ _ _ _ hl hS
          have mu : Mut (H a) := by rw [h1]; trivial
          have ex : Ext H π (upd H a (.dK (putK ws kk v))) π := Ext.put (List.mem_of_getElem? hl) mu
          rw [ry.key hk]
          exact .inr ⟨a, _, rfl, DPut.k h1 (Nat.lt_of_lt_of_le (by rw [pr_len h2]; exact hz) (lim_size (Nat.le_refl _))), k _ ex (s.put hl mu ⟨_, upd_same, (pr_put h2 rv).ext ex⟩)⟩
        · cases h
      · cases h
    · rename_i kvs hS
      split at h
      · rename_i kk hk
        split at h
        · rename_i hz
          cases h
          obtain ⟨ws, h1, h2⟩ := s.at_ _ _ _ hl hS
          have mu : Mut (H a) := by rw [h1]; trivial
          have ex : Ext H π (upd H a (.dT (putK ws kk v))) π := Ext.put (List.mem_of_getElem? hl) mu
          unfold D.tkey at hk
          split at hk
          · obtain ⟨b, ys, rfl, h3, h4⟩ := ry.tupI
            rw [h4.key hk] at h3
            exact .inr ⟨a, _, rfl, DPut.t h1 h3 (Nat.lt_of_lt_of_le (by rw [pr_len h2]; exact hz) (lim_size (Nat.le_refl _))), k _ ex (s.put hl mu ⟨_, upd_same, (pr_put h2 rv).ext ex⟩)⟩
          · cases hk
        · cases h
      · cases h
    · cases h
  · cases h
theorem s_sub (h : PS X st (tAsg (EvT c W fa) (gSub (EvT c W fo) (EvT c W fi) setP))) : PS X st (StT c W (sSub fo fi fa)) := h.weak fun D σ H ⟨e, S, π, ev, q⟩ =>
  ⟨e, S, π, ev, (run_st (rel := rV c) ev q).mono fun v H1 ⟨d, S1, π1, e1, s1, rv, q1⟩ => ⟨e, S1, π1, ev.ext e1 s1, (run_st (rel := rV c) (ev.ext e1 s1) q1).mono fun x H2 ⟨o, S2, π2, e2, s2, rx, q2⟩ =>
    ⟨e, S2, π2, (ev.ext e1 s1).ext e2 s2, (run_st (rel := rV c) ((ev.ext e1 s1).ext e2 s2) q2).mono fun y H3 ⟨i, S3, π3, e3, s3, ry, q3⟩ => by
      split at q3
      · rename_i S4 h4
        exact set_at s3 (rx.ext e3) ry (rv.ext (e2.trans e3)) h4 fun H' x' s' => q3 σ H' π3 x' ((((ev.ext e1 s1).ext e2 s2).ext e3 s3).ext x' s')
      · exact q3.elim⟩⟩⟩
end
end Pu
namespace Pu
open L2 PySem PySem.Spec PyProof.Rows Lb
abbrev Chk := Option (Nat × Ob)
/-- a list that is walked stands still -/
def ChkOk (k : Chk) (S : Sto) : Prop := match k with
  | none => True
  | some (l, ob) => S[l]? = some ob
abbrev Ix := Env → Sto → Res (Chk × List D)
section
open Classical
noncomputable def loopS (k : Chk) (p : Pat) (g : Sx) : List D → Sx
  | [], e, S => if ChkOk k S then .nx e S else .no
  | d :: ds, e, S => if ChkOk k S then (match p.bind d e with
    | none => .no
    | some e1 => match g e1 S with
      | .nx e2 S2 => loopS k p g ds e2 S2
      | .ct e2 S2 => loopS k p g ds e2 S2
      | .bk e2 S2 => .nx e2 S2
      | o => o) else .no
noncomputable def loopC (k : Chk) (p : Pat) (t : Bx) (a : Ex) : List D → Env → Sto → Res (List D)
  | [], e, S => if ChkOk k S then .ok [] S else .no
  | d :: ds, e, S => if ChkOk k S then (match p.bind d e with
    | none => .no
    | some e1 => match t e1 S with
      | .ok true S1 => (match a e1 S1 with
        | .ok y S2 => (match loopC k p t a ds e S2 with
          | .ok ys S3 => .ok (y :: ys) S3
          | _ => .no)
        | _ => .no)
      | .ok false S1 => loopC k p t a ds e S1
      | _ => .no) else .no
end
noncomputable def sFor (it : Ix) (p : Pat) (g : Sx) : Sx := fun e S => (it e S).st e fun kd S1 => loopS kd.1 p g kd.2 e S1
def wipeE (e : Env) : List Nat → Env
  | [] => e
  | i :: is => (wipeE e is).set i none
noncomputable def eComp (it : Ix) (p : Pat) (vs : List Nat) (t : Bx) (a : Ex) : Ex := fun e S => (it e S).bind fun kd S1 => if kd.2.length ≤ 100000 then (match loopC kd.1 p t a kd.2 (wipeE e vs) S1 with
  | .ok ys S2 => .ok (.ref S2.length) (S2 ++ [.lst ys])
  | _ => .no) else .no
def bYes : Bx := fun _ S => .ok true S
def ItOk (c : EC) (J : It) (H1 : Hp) (π1 : List Addr) (kd : Chk × List D) : Prop := ∀ (i : Nat) (H : Hp) (π : List Addr) (S : Sto), Ext H1 π1 H π → SR c.K c.cl H π S → ChkOk kd.1 S →
  (∀ d, kd.2[i]? = some d → J.go i H ∧ ∀ x H', J.yld i H x H' → Ext H π H' π ∧ SR c.K c.cl H' π S ∧ VR c.K H' π x d) ∧ (kd.2.length ≤ i → J.stop i H)
abbrev rIt (c : EC) : Hp → List Addr → It → Chk × List D → Prop := fun H π J kd => ItOk c J H π kd
def IterT (c : EC) (W : WX) (it : Ix) : TI := fun σ H R => ∃ e S π, EnvR c σ H e S π ∧ Run c W (rIt c) σ H π (it e S) R
theorem _root_.L2.PI.weak {X : Cx} {tg e : Expr} {t u : TI} (h : PI X tg e t) (k : ∀ σ H R, u σ H R → t σ H R) : PI X tg e u := ⟨fun pins s σ H R I q => h.run pins s σ H R I (k σ H R q)⟩
section
variable {K : PySem.W.Frag} {c : EC} {X : Cx} {W : WX} {ex tg : Expr} {st : Stmt} {sts : List Stmt} {fa fo fi : Ex} {aa : Ax} {tb : Bx} {f g : Sx} {H : Hp} {π : List Addr} {S : Sto}
def iSeq (K : PySem.W.Frag) (tl : TE) : TI := fun σ H R => tl σ H fun x H1 => (∃ a xs, x = .ref a ∧ SqL K H1 a xs ∧ R (Itl K a) H1) ∨ (∃ a xs, x = .ref a ∧ SqT K H1 a xs ∧ R (Itt K a) H1) ∨ ∃ z, x = .str z ∧ R (Its z) H1
theorem pi_seq {l : Expr} {tl : TE} (hl : PE X l tl) (h : X.K = K) : PI X tg l (iSeq K tl) := by
  subst h
  refine ⟨fun pins s σ H R I h => ?_⟩
  refine thn (hl.run pins s σ H _ I h) fun v s1 ⟨x, H1, I1, r1, q1⟩ => ?_
  rcases q1 with ⟨a, xs, rfl, hq, q⟩ | ⟨a, xs, rfl, hq, q⟩ | ⟨z, rfl, q⟩
  · cases r1
    obtain ⟨its, rv, p, hz⟩ := I1.list hq
    refine wpAny_pyIter_list p.isList ?_
    refine ⟨s1.heap.objs.size, [s1.heap.objs.size], _, _, H1, rfl, I1.kept (t' := s1.toks) fun b o e => Heap.get?_push_of_some _ e, turn_list a _, ⟨_, Heap.get?_push_size _ rfl, rfl, rfl⟩, fun b hb => ?_, q⟩
    have e : b = s1.heap.objs.size := by simpa using hb
    subst e
    exact I1.fpOk (Nat.le_refl _) (I1.hok.fresh (Nat.le_refl _))
  · cases r1
    obtain ⟨its, rv, p, hz⟩ := I1.tuple hq
    refine wpAny_pyIter_tuple (show s1.heap.IsTuple a its.toArray from p) ?_
    refine ⟨s1.heap.objs.size, [s1.heap.objs.size], _, _, H1, rfl, I1.kept (t' := s1.toks) fun b o e => Heap.get?_push_of_some _ e, turn_tuple a _, ⟨_, Heap.get?_push_size _ rfl, rfl, rfl⟩, fun b hb => ?_, q⟩
    have e : b = s1.heap.objs.size := by simpa using hb
    subst e
    exact I1.fpOk (Nat.le_refl _) (I1.hok.fresh (Nat.le_refl _))
  · obtain ⟨t, rfl⟩ := r1
    cases ha : z.cps.all (· < 128)
    · exact wpAny_pyIter_wide ha (pi_one (tk := s1.toks) I1 _ (turn_str _ z t "str_iterator" (.inr rfl)) ⟨_, Heap.get?_push_size _ rfl, rfl, rfl⟩ q)
    · exact wpAny_pyIter_ascii ha (pi_one (tk := s1.toks) I1 _ (turn_str _ z t "str_ascii_iterator" (.inl rfl)) ⟨_, Heap.get?_push_size _ rfl, rfl, rfl⟩ q)
def signsD (z : Str) : List D := z.cps.toList.map fun k => .str ⟨#[k]⟩
def itSeq (a : Ex) : Ix := fun e S => (a e S).bind fun d S1 => match d with
  | .str z => .ok (none, signsD z) S1
  | .ref l => (match S1[l]? with | some (.lst ds) => .ok (some (l, .lst ds), ds) S1 | _ => .no)
  | d => (match d.seq S1 with | some ds => .ok (none, ds) S1 | none => .no)
theorem it_lst {H1 : Hp} {π1 : List Addr} {l : Nat} {a : Addr} {ds : List D} (hl : π1[l]? = some a) : ItOk c (Itl c.K a) H1 π1 (some (l, .lst ds), ds) := by
  intro i H π S x s hk
  obtain ⟨xs, h1, h2⟩ := s.at_ _ _ _ (x.get hl) hk
  refine ⟨fun d hd => ?_, fun hi => ⟨xs, SqL.of h1, by rw [h2.len]; exact hi⟩⟩
  obtain ⟨v, h3, h4⟩ := h2.get hd
  refine ⟨⟨xs, v, SqL.of h1, h3⟩, fun y H' hy => ?_⟩
  obtain ⟨rfl, hy⟩ := hy
  have := hy xs (SqL.of h1)
  rw [h3] at this
  cases this
  exact ⟨Ext.refl, s, h4⟩
theorem it_lsf {H1 : Hp} {π1 : List Addr} {a : Addr} {xs : List V} {ds : List D} (h1 : SqF c.K H1 a xs) (h2 : VRs c.K H1 π1 xs ds) : ItOk c (Itl c.K a) H1 π1 (none, ds) := by
  intro i H π S x s hk
  have h1 := (x.i.sqF h1).l
  have h2 := h2.ext x
  refine ⟨fun d hd => ?_, fun hi => ⟨xs, h1, by rw [h2.len]; exact hi⟩⟩
  obtain ⟨v, h3, h4⟩ := h2.get hd
  refine ⟨⟨xs, v, h1, h3⟩, fun y H' hy => ?_⟩
  obtain ⟨rfl, hy⟩ := hy
  have := hy xs h1
  rw [h3] at this
  cases this
  exact ⟨Ext.refl, s, h4⟩
theorem it_tup {H1 : Hp} {π1 : List Addr} {a : Addr} {xs : List V} {ds : List D} (h1 : SqT c.K H1 a xs) (h2 : VRs c.K H1 π1 xs ds) : ItOk c (Itt c.K a) H1 π1 (none, ds) := by
  intro i H π S x s hk
  have h1 := x.i.sqT h1
  have h2 := h2.ext x
  refine ⟨fun d hd => ?_, fun hi => ⟨xs, h1, by rw [h2.len]; exact hi⟩⟩
  obtain ⟨v, h3, h4⟩ := h2.get hd
  refine ⟨⟨xs, v, h1, h3⟩, fun y H' hy => ?_⟩
  obtain ⟨rfl, hy⟩ := hy
  have := hy xs h1
  rw [h3] at this
  cases this
  exact ⟨Ext.refl, s, h4⟩
theorem it_str {H1 : Hp} {π1 : List Addr} {z : Str} : ItOk c (Its z) H1 π1 (none, signsD z) := by
  intro i H π S x s hk
  refine ⟨fun d hd => ?_, fun hi => ?_⟩
  · unfold signsD at hd
    rw [List.getElem?_map] at hd
    obtain ⟨k, h1, rfl⟩ := Option.map_eq_some_iff.mp hd
    have h1' : z.cps[i]? = some k := by rw [← Array.getElem?_toList]; exact h1
    refine ⟨?_, fun y H' hy => ?_⟩
    · show i < z.cps.size
      have := (List.getElem?_eq_some_iff.mp h1).1
      simpa using this
    · obtain ⟨rfl, k', h2, rfl⟩ := hy
      rw [h1'] at h2
      cases h2
      exact ⟨Ext.refl, s, .str _⟩
  · show z.cps.size ≤ i
    simpa [signsD] using hi
theorem it_seq (h : PI X tg ex (iSeq K (EvT c W fa))) (hK : K = c.K) : PI X tg ex (IterT c W (itSeq fa)) := h.weak fun σ H R ⟨e, S, π, ev, q⟩ =>
  ⟨e, S, π, ev, (run_bind (rel := rV c) q).mono fun x H1 ⟨d, S1, π1, e1, s1, rx, q1⟩ => by
    subst hK
    split at q1
    · rw [rx.strI]; exact .inr (.inr ⟨_, rfl, q1 _ _ _ Ext.refl s1 it_str⟩)
    · obtain ⟨a, rfl, hl⟩ := rx.refI
      split at q1
      · rename_i ds hS
        obtain ⟨xs, h1, h2⟩ := s1.at_ _ _ _ hl hS
        exact .inl ⟨a, xs, rfl, SqL.of h1, q1 _ _ _ Ext.refl s1 (it_lst hl)⟩
      · exact q1.elim
    · rename_i n1 n2
      split at q1
      · rename_i ds hd
        cases rx with
        | tup h r => cases hd; exact .inr (.inl ⟨_, _, rfl, SqT.of h, q1 _ _ _ Ext.refl s1 (it_tup (SqT.of h) r)⟩)
        | ktu h r => cases hd; exact .inr (.inl ⟨_, _, rfl, h, q1 _ _ _ Ext.refl s1 (it_tup h r)⟩)
        | lsf h r => cases hd; exact .inl ⟨_, _, rfl, h.l, q1 _ _ _ Ext.refl s1 (it_lsf h r)⟩
        | ref h => exact absurd rfl (n2 _)
        | _ => cases hd
      · exact q1.elim⟩
def rngD (lo : Int) (n : Nat) : List D := (List.range n).map fun i => .int (lo + (i : Nat))
def itR1 (a : Ax) : Ix := fun e S => (a e S).bind fun ds S1 => match ds with
  | [.int j] => if j < 2 ^ 62 ∧ -(2 ^ 62) ≤ j then .ok (none, rngD 0 j.toNat) S1 else .no
  | _ => .no
def itR2 (a : Ax) : Ix := fun e S => (a e S).bind fun ds S1 => match ds with
  | [.int i, .int j] => if (j < 2 ^ 62 ∧ -(2 ^ 62) ≤ j) ∧ i < 2 ^ 62 ∧ -(2 ^ 62) ≤ i then .ok (none, rngD i (j - i).toNat) S1 else .no
  | _ => .no
theorem it_rng {H1 : Hp} {π1 : List Addr} {lo : Int} {n : Nat} : ItOk c (Itr lo n) H1 π1 (none, rngD lo n) := by
  intro i H π S x s hk
  refine ⟨fun d hd => ?_, fun hi => ?_⟩
  · unfold rngD at hd
    rw [List.getElem?_map] at hd
    obtain ⟨k, h1, rfl⟩ := Option.map_eq_some_iff.mp hd
    obtain ⟨h2, h3⟩ := List.getElem?_eq_some_iff.mp h1
    rw [List.getElem_range] at h3
    subst h3
    refine ⟨show i < n by simpa using h2, fun y H' hy => ?_⟩
    obtain ⟨rfl, rfl⟩ := hy
    exact ⟨Ext.refl, s, .int _⟩
  · show n ≤ i
    simpa [rngD] using hi
theorem it_r1 (h : PI X tg ex (iRng1 (ArT c W aa))) : PI X tg ex (IterT c W (itR1 aa)) := h.weak fun σ H R ⟨e, S, π, ev, q⟩ =>
  ⟨e, S, π, ev, (run_bind (rel := rVs c) q).mono fun x H1 ⟨d, S1, π1, e1, s1, rx, q1⟩ => by
    split at q1
    · split at q1
      · rename_i hj
        obtain ⟨v, rfl, r⟩ := vrs1 rx
        rw [r.intI]
        exact ⟨_, rfl, hj.2, hj.1, q1 _ _ _ Ext.refl s1 it_rng⟩
      · exact q1.elim
    · exact q1.elim⟩
theorem for_core {J : It} {tg : TG} {p : Pat} {σ : L2.St} {e : Env} {kd : Chk × List D} {D : Ends} (ev : EnvR c σ H e S π) (it : ItOk c J H π kd) (hp : PatR c tg p) (q : RunS c W H π (loopS kd.1 p g kd.2 e S) D) :
    ∃ W' : Nat → Nat → L2.St → Hp → Prop, (∃ m, W' 0 m σ H) ∧ ∀ i m σ H, W' i m σ H →
      (J.stop i H ∧ D.nx σ H) ∨ (J.go i H ∧ ∃ N : L2.St → Hp → Prop, (∀ σ' H', N σ' H' → ∃ m', m' < m ∧ W' (i + 1) m' σ' H') ∧ ∀ x H', J.yld i H x H' → tg x σ H' fun σ2 H2 => StT c W g { D with nx := N, ct := N, bk := D.nx } σ2 H2) := by
  refine ⟨fun i m σ' H' => m = kd.2.length - i ∧ i ≤ kd.2.length ∧ ∃ e' S' π', EnvR c σ' H' e' S' π' ∧ Ext H π H' π' ∧ RunS c W H' π' (loopS kd.1 p g (kd.2.drop i) e' S') D, ⟨_, rfl, Nat.zero_le _, e, S, π, ev, Ext.refl, q⟩, ?_⟩
  rintro i m σ' H' ⟨rfl, hi, e', S', π', ev', x', q'⟩
  by_cases hlt : i < kd.2.length
  · have hd : kd.2[i]? = some kd.2[i] := List.getElem?_eq_getElem hlt
    rw [List.drop_eq_getElem_cons hlt] at q'
    unfold loopS at q'
    split at q'
    · rename_i hk
      obtain ⟨h1, _⟩ := it i H' π' S' x' ev'.sr hk
      obtain ⟨h2, h3⟩ := h1 _ hd
      refine .inr ⟨h2, fun σ2 H2 => ∃ e2 S2 π2, EnvR c σ2 H2 e2 S2 π2 ∧ Ext H π H2 π2 ∧ RunS c W H2 π2 (loopS kd.1 p g (kd.2.drop (i + 1)) e2 S2) D, fun σ2 H2 h => ⟨_, by omega, rfl, hlt, h⟩, fun y H2 hy => ?_⟩
      obtain ⟨x2, s2, r2⟩ := h3 y H2 hy
      split at q'
      · exact q'.elim
      · rename_i e1 hb
        refine hp.run (ev'.ext x2 s2) r2 hb fun vs ev3 => ⟨e1, S', π', ev3, ?_⟩
        have q2 := RunS.ext q' x2
        have x3 := x'.trans x2
        revert q2
        cases g e1 S' with
        | nx e2 S2 => exact fun q σ4 H4 π4 x4 ev4 => ⟨e2, S2, π4, ev4, x3.trans x4, RunS.ext q x4⟩
        | ct e2 S2 => exact fun q σ4 H4 π4 x4 ev4 => ⟨e2, S2, π4, ev4, x3.trans x4, RunS.ext q x4⟩
        | bk e2 S2 => exact fun q => q
        | rt d S2 => exact fun q => q
        | er C y e2 S2 => exact fun q => q
        | no => exact fun q => q
    · exact q'.elim
  · have e0 : i = kd.2.length := by omega
    subst e0
    rw [List.drop_length] at q'
    unfold loopS at q'
    split at q'
    · rename_i hk
      obtain ⟨_, h1⟩ := it _ H' π' S' x' ev'.sr hk
      exact .inl ⟨h1 (Nat.le_refl _), q' σ' H' π' Ext.refl ev'⟩
    · exact q'.elim
theorem s_for {it : Ix} {t : TG} {p : Pat} (h : PS X st (tFor (IterT c W it) t (StT c W g))) (hp : PatR c t p) : PS X st (StT c W (sFor it p g)) := h.weak fun D σ H ⟨e, S, π, ev, q⟩ =>
  ⟨e, S, π, ev, (run_st (rel := rIt c) ev q).mono fun J H1 ⟨kd, S1, π1, e1, s1, rj, q1⟩ => for_core (ev.ext e1 s1) rj hp q1⟩
theorem env_wipe {σ : L2.St} {e : Env} (ev : EnvR c σ H e S π) : ∀ {vs : List Nat}, EnvR c (wipe σ vs) H (wipeE e vs) S π
  | [] => ev
  | i :: is => (env_wipe ev (vs := is)).un (i := i) (v := none)
theorem wipe_get {σ : L2.St} {j : Nat} : ∀ {vs : List Nat}, (wipe σ vs)[j]? = if j ∈ vs then σ[j]?.map fun _ => none else σ[j]?
  | [] => by simp [wipe]
  | v :: vs => by
    unfold wipe
    by_cases e : v = j
    · subst e
      by_cases hv : v < σ.length
      · rw [List.getElem?_set_self (by rw [wipe_length]; exact hv), if_pos (by simp), List.getElem?_eq_getElem hv]; rfl
      · rw [List.getElem?_eq_none_iff.mpr (by rw [List.length_set, wipe_length]; omega), List.getElem?_eq_none_iff.mpr (by omega)]; simp
    · rw [List.getElem?_set_ne e, wipe_get]
      have : (j ∈ v :: vs) = (j ∈ vs) := by simp [Ne.symm e]
      simp only [this]
theorem wipe_wipe {σ : L2.St} {vs : List Nat} : wipe (wipe σ vs) vs = wipe σ vs := by
  apply List.ext_getElem?
  intro j
  rw [wipe_get, wipe_get]
  by_cases e : j ∈ vs
  · rw [if_pos e, if_pos e]; cases σ[j]? <;> rfl
  · rw [if_neg e, if_neg e]
theorem wipe_set {σ : L2.St} {vs : List Nat} {i : Nat} {x : Option V} (h : i ∈ vs) : wipe (σ.set i x) vs = wipe σ vs := by
  apply List.ext_getElem?
  intro j
  rw [wipe_get, wipe_get]
  by_cases e : i = j
  · subst e
    rw [if_pos h, if_pos h]
    by_cases hi : i < σ.length
    · rw [List.getElem?_set_self hi, List.getElem?_eq_getElem hi]; rfl
    · rw [List.getElem?_eq_none_iff.mpr (by rw [List.length_set]; omega), List.getElem?_eq_none_iff.mpr (by omega)]
  · rw [List.getElem?_set_ne e]
theorem wipe_setσ {vs : List Nat} : ∀ {is : List Nat} {us : List V} {σ : L2.St}, (∀ i ∈ is, i ∈ vs) → wipe (setσ is us σ) vs = wipe σ vs
  | [], _, _, _ => by cases ‹List V› <;> rfl
  | i :: is, [], _, _ => rfl
  | i :: is, u :: us, σ, h => by
    show wipe (setσ is us (σ.set i (some u))) vs = wipe σ vs
    rw [wipe_setσ (fun j hj => h j (.tail _ hj)), wipe_set (h i (.head _))]
theorem SR.off {cl : Nat → Addr} {a : Addr} {o : HO} (s : SR K cl H π S) (n : a ∉ π) (mu : H a = none ∨ Mut (H a)) : SR K cl (upd H a o) π S :=
  ⟨s.len, s.nd, fun l b ob h1 h2 => by
    have hb : b ≠ a := fun z => n (z ▸ List.mem_of_getElem? h1)
    refine (s.at_ l b ob h1 h2).imm ⟨⟨[], by simp⟩, fun d u hm hu => ?_⟩ (upd_ne hb)
    rw [upd_ne]
    · exact hu
    · rintro rfl
      rcases mu with mu | mu
      · rw [hu] at mu; cases mu
      · rw [hu] at mu; exact hm mu⟩
theorem lc_core {J : It} {tg : TG} {p : Pat} {σ : L2.St} {e : Env} {kd : Chk × List D} {Q : VK} {tt : TT} {te : TE} {vs : List Nat} {W0 : WX} (hW : ∀ c d σ H, ¬ W0 c d σ H)
    (ht : ∀ σ H Q, TsT c W0 tb σ H Q → tt σ H Q) (he : ∀ σ H Q, EvT c W0 fa σ H Q → te σ H Q) (hv : ∀ i ∈ p.slots, i ∈ vs)
    (ev : EnvR c σ H e S π) (it : ItOk c J H π kd) (hp : PatR c tg p) {ys : List D} {Sz : Sto} (hl : kd.2.length ≤ 100000) (hr : loopC kd.1 p tb fa kd.2 (wipeE e vs) S = .ok ys Sz)
    (q : Run c W (rV c) σ H π (.ok (.ref Sz.length) (Sz ++ [.lst ys])) Q) : ∀ Dd, H Dd = none →
    ∃ W' : Nat → Nat → Hp → Prop, (∃ m, W' 0 m (upd H Dd (.lst []))) ∧ ∀ i m H, W' i m H →
      (J.stop i H ∧ Q (.ref Dd) H) ∨ (J.go i H ∧ ∃ Nx : Hp → Prop, (∀ H', Nx H' → ∃ m', m' < m ∧ W' (i + 1) m' H') ∧ ∀ x H', J.yld i H x H' → tg x (wipe σ vs) H' fun σ2 H2 => wipe σ2 vs = wipe σ vs ∧ tt σ2 H2 fun b H3 =>
        if b = true then te σ2 H3 fun y H4 => ∃ acc, H4 Dd = some (.lst acc) ∧ acc.length < sizeLine ∧ Nx (upd H4 Dd (.lst (acc ++ [y]))) else Nx H3) := by
  intro Dd hD
  -- the state behind i turns
  let Pv : Nat → Hp → Prop := fun i H' => ∃ (S' : Sto) (π' : List Addr) (acc : List D) (accV : List V) (zs : List D), SR c.K c.cl H' π' S' ∧ Ext H π H' π' ∧ Dd ∉ π' ∧ H' Dd = some (.lst accV) ∧ VRs c.K H' π' accV acc ∧ acc.length ≤ i ∧
    loopC kd.1 p tb fa (kd.2.drop i) (wipeE e vs) S' = .ok zs Sz ∧ acc ++ zs = ys
  have ev0 : ∀ {H' π' S'}, Ext H π H' π' → SR c.K c.cl H' π' S' → EnvR c (wipe σ vs) H' (wipeE e vs) S' π' := fun x s => env_wipe (ev.ext x s)
  refine ⟨fun i m H' => m = kd.2.length - i ∧ i ≤ kd.2.length ∧ Pv i H', ⟨_, rfl, Nat.zero_le _, S, π, [], [], ys, ?_, Ext.new hD, ev.sr.fresh hD, upd_same, .nil, Nat.le_refl _, hr, rfl⟩, ?_⟩
  · exact ev.sr.new hD
  rintro i m H' ⟨rfl, hi, S', π', acc, accV, zs, s', x', nD, hDd, ra, la, hz, hys⟩
  by_cases hlt : i < kd.2.length
  · have hd : kd.2[i]? = some kd.2[i] := List.getElem?_eq_getElem hlt
    rw [List.drop_eq_getElem_cons hlt] at hz
    unfold loopC at hz
    split at hz
    · rename_i hk
      obtain ⟨h1, _⟩ := it i H' π' S' x' s' hk
      obtain ⟨h2, h3⟩ := h1 _ hd
      refine .inr ⟨h2, Pv (i + 1), fun H2 h => ⟨_, by omega, rfl, hlt, h⟩, fun y H2 hy => ?_⟩
      obtain ⟨x2, s2, r2⟩ := h3 y H2 hy
      have hDd2 : H2 Dd = some (.lst accV) := x2.kp _ _ nD hDd
      split at hz
      · cases hz
      · rename_i e1 hb
        refine hp.run (ev0 (x'.trans x2) s2) r2 hb fun us ev3 => ⟨?_, ?_⟩
        · rw [wipe_setσ hv, wipe_wipe]
        · refine ht _ _ _ ⟨e1, S', π', ev3, ?_⟩
          split at hz
          · rename_i S1 ht1
            rw [ht1]
            intro b H3 π3 x3 s3 rb
            subst rb
            rw [if_pos rfl]
            have hDd3 : H3 Dd = some (.lst accV) := x3.kp _ _ nD hDd2
            split at hz
            · rename_i y1 S2 ha
              refine he _ _ _ ⟨e1, S1, π3, ev3.ext x3 s3, ?_⟩
              rw [ha]
              intro v H4 π4 x4 s4 r4
              have nD3 : Dd ∉ π3 := fun m => by
                have := x3.fr _ m nD
                rw [hDd2] at this; cases this
              have hDd4 : H4 Dd = some (.lst accV) := x4.kp _ _ nD3 hDd3
              have nD4 : Dd ∉ π4 := fun m => by
                have := x4.fr _ m nD3
                rw [hDd3] at this; cases this
              split at hz
              · rename_i zs' S3 hl3
                cases hz
                have mu : Mut (H4 Dd) := by rw [hDd4]; trivial
                have xall := x'.trans (x2.trans (x3.trans x4))
                have im : Im H4 π4 (upd H4 Dd (.lst (accV ++ [v]))) π4 := ⟨⟨[], by simp⟩, fun b u n hb => by
                  rw [upd_ne]
                  · exact hb
                  · rintro rfl
                    rw [hb] at mu; exact n mu⟩
                refine ⟨accV, hDd4, ?_, S2, π4, acc ++ [y1], accV ++ [v], zs', s4.off nD4 (.inr mu), ?_, nD4, upd_same, ?_, ?_, hl3, by rw [List.append_assoc]; exact hys⟩
                · rw [ra.len]; exact Nat.lt_of_lt_of_le (by omega) (lim_size (Nat.le_refl _))
                · refine ⟨xall.pre, fun b u n hb => ?_, fun b u n hb => im.im b u n (xall.im b u n hb), fun b hb => ?_, xall.fr⟩
                  · rw [upd_ne (ne_of_none hb hD)]; exact xall.kp b u n hb
                  · by_cases z : b = Dd
                    · rw [z]; exact hD
                    · rw [upd_ne z] at hb; exact xall.dm b hb
                · exact (((ra.ext x2).ext x3).ext x4).imm im |>.append (.cons (r4.imm im) .nil)
                · rw [List.length_append]; simp only [List.length_cons, List.length_nil]; omega
              · cases hz
            · cases hz
          · rename_i S1 ht1
            rw [ht1]
            intro b H3 π3 x3 s3 rb
            subst rb
            rw [if_neg (by simp)]
            have hDd3 : H3 Dd = some (.lst accV) := x3.kp _ _ nD hDd2
            refine ⟨S1, π3, acc, accV, zs, s3, x'.trans (x2.trans x3), fun m => ?_, hDd3, (ra.ext x2).ext x3, by omega, hz, hys⟩
            have := x3.fr _ m nD
            rw [hDd2] at this; cases this
          · cases hz
    · cases hz
  · have e0 : i = kd.2.length := by omega
    subst e0
    rw [List.drop_length] at hz
    unfold loopC at hz
    split at hz
    · rename_i hk
      obtain ⟨_, h1⟩ := it _ H' π' S' x' s' hk
      cases hz
      rw [List.append_nil] at hys
      subst hys
      refine .inl ⟨h1 (Nat.le_refl _), q _ H' (π' ++ [Dd]) (x'.adopt hD) (s'.adopt nD ⟨accV, hDd, ra.imm ⟨⟨[Dd], rfl⟩, fun _ _ _ h => h⟩⟩) (.ref (by rw [← s'.len]; simp))⟩
    · cases hz
theorem tLc_e {it : Ix} {t : TG} {p : Pat} {tt : TT} {te : TE} {vs : List Nat} (ht : ∀ σ H Q, TsT c (fun _ _ _ _ => False) tb σ H Q → tt σ H Q) (he : ∀ σ H Q, EvT c (fun _ _ _ _ => False) fa σ H Q → te σ H Q) (hp : PatR c t p) (hv : ∀ i ∈ p.slots, i ∈ vs)
    (σ : L2.St) (H : Hp) (Q : VK) (q : EvT c W (eComp it p vs tb fa) σ H Q) : tLc (IterT c W it) t tt te vs σ H Q := by
  obtain ⟨e, S, π, ev, q⟩ := q
  refine ⟨e, S, π, ev, (run_bind (rel := rIt c) q).mono fun J H1 ⟨kd, S1, π1, e1, s1, rj, q1⟩ => ?_⟩
  split at q1
  · rename_i hl
    split at q1
    · rename_i ys Sz hr
      exact lc_core (fun _ _ _ _ h => h) ht he hv (ev.ext e1 s1) rj hp hl hr q1
    · exact q1.elim
  · exact q1.elim
theorem ev_lc {it : Ix} {t : TG} {p : Pat} {vs : List Nat} (h : PE X ex (tLc (IterT c W it) t (TsT c (fun _ _ _ _ => False) tb) (EvT c (fun _ _ _ _ => False) fa) vs)) (hp : PatR c t p) (hv : ∀ i ∈ p.slots, i ∈ vs) : PE X ex (EvT c W (eComp it p vs tb fa)) :=
  h.weak (tLc_e (fun _ _ _ z => z) (fun _ _ _ z => z) hp hv)
theorem ev_lcY {it : Ix} {t : TG} {p : Pat} {vs : List Nat} (h : PE X ex (tLc (IterT c W it) t tYes (EvT c (fun _ _ _ _ => False) fa) vs)) (hp : PatR c t p) (hv : ∀ i ∈ p.slots, i ∈ vs) : PE X ex (EvT c W (eComp it p vs bYes fa)) :=
  h.weak (tLc_e (fun σ H Q ⟨e, S, π, ev, q⟩ => q true H π Ext.refl ev.sr rfl) (fun _ _ _ z => z) hp hv)
end
end Pu
namespace Pu
open L2 PySem PySem.Spec PyProof.Rows Lb
def dAddI (x y : D) (S : Sto) : Res D := match x, y with | .int a, .int b => .ok (.int (a + b)) S | _, _ => .no
def dSubI (x y : D) (S : Sto) : Res D := match x, y with | .int a, .int b => .ok (.int (a - b)) S | _, _ => .no
def sAug (i : Nat) (F : D → D → Sto → Res D) (a : Ex) : Sx := fun e S => match e[i]? with
  | some (some (.v d)) => (a e S).st e fun y S1 => (F d y S1).st e fun z S2 => .nx (e.set i (some (.v z))) S2
  | _ => .no
/-- o.f op= a -/
def sFldAugP (cs : List Nat) (f : Str) (F : D → D → Sto → Res D) (o a : Ex) : Sx := fun e S => (o e S).st e fun x S1 => match x with
  | .ref l => (match S1[l]? with
    | some (.obj C fs) => if C ∈ cs then (match lkF f fs with
      | some d => (a e S1).st e fun y S3 => (F d y S3).st e fun z S4 => (match fputD [C] f (.ref l) z S4 with | some S5 => .nx e S5 | none => .no)
      | none => .no) else .no
    | _ => .no)
  | _ => .no
def sRaiseX (C : Nat) (f : Str) (a : Ax) : Sx := fun e S => (a e S).st e fun ds S1 => match ds with | [d] => .er C (some [(f, d)]) e S1 | _ => .no
def sRaiseY (C : Nat) : Sx := fun e S => .er C none e S
def EC.push (c : EC) (x : XE) : EC := ⟨c.K, c.cl, c.xs ++ [x]⟩
def clr (k : Nat) : Option Sl → Option Sl
  | some (.x j) => if j < k then some (.x j) else none
  | s => s
def Out.post (o : Out) (k i : Nat) : Out := match o with
  | .nx e S => .nx ((e.map (clr k)).set i none) S
  | .bk e S => .bk ((e.map (clr k)).set i none) S
  | .ct e S => .ct ((e.map (clr k)).set i none) S
  | .rt d S => .rt d S
  | _ => .no
def Out.quiet (o : Out) : Out := match o with
  | .er _ _ _ _ => .no
  | o => o
def sTryOnly (tbl : Nat → Option Bool) (gb gs : Sx) : Sx := fun e S => match gb e S with
  | .er C x e1 S1 => (match tbl C with
    | some true => (gs e1 S1).quiet
    | some false => .er C x e1 S1
    | none => .no)
  | o => o
section
variable {K : PySem.W.Frag} {c : EC} {X : Cx} {W : WX} {ex tg : Expr} {st : Stmt} {sts : List Stmt} {fa fo fi : Ex} {aa : Ax} {tb : Bx} {f g : Sx} {H : Hp} {π : List Addr} {S : Sto}
theorem s_raiseX {C : Nat} {f : Str} (h : PS X st (tRaiseX (c.cl C) f W (ArT c W aa))) (hC : C < 1000 := by decide) : PS X st (StT c W (sRaiseX C f aa)) := h.weak fun D σ H ⟨e, S, π, ev, q⟩ =>
  ⟨e, S, π, ev, (run_st (rel := rVs c) ev q).mono fun x H1 ⟨ds, S1, π1, e1, s1, rs, q1⟩ => by
    split at q1
    · obtain ⟨v, rfl, r⟩ := vrs1 rs
      refine ⟨v, rfl, fun d hd => ?_⟩
      have x := Ext.new (π := π1) (o := .xd [(f, v)]) hd
      rw [← exV_lt (cl := c.cl) hC]
      exact q1 σ _ π1 (some d) x ((ev.ext e1 s1).ext x (s1.new hd)) fun _ => ⟨d, _, rfl, upd_same, .cons (r.ext x) .nil⟩
    · exact q1.elim⟩
theorem s_raiseY {C : Nat} (h : PS X st (tRaiseY (c.cl C) W)) (hC : C < 1000 := by decide) : PS X st (StT c W (sRaiseY C)) := h.weak fun D σ H ⟨e, S, π, ev, q⟩ => by
  have := q σ H π none Ext.refl ev fun _ => rfl
  rw [exV_lt hC] at this
  exact this
/-- raise of a built-in class -/
theorem s_raiseB {C : Nat} (h : PS X st (fun _ σ H => ∀ d, W (.type (bxN C)) d σ H)) (hC : ¬ C < 1000 := by decide) : PS X st (StT c W (sRaiseY C)) := h.weak fun D σ H ⟨e, S, π, ev, q⟩ d => by
  have := q σ H π d Ext.refl ev fun z => absurd z hC
  unfold exV at this
  rw [if_neg hC] at this
  exact this
abbrev wF : WX := fun _ _ _ _ => False
theorem env_push {c : EC} {σ : L2.St} {e : Env} {x : XE} {i : Nat} (ev : EnvR c σ H e S π) (xr : XR c.K H π x.d x.x) : EnvR (c.push x) (σ.set i (some (.ref x.a))) H (e.set i (some (.x c.xs.length))) S π where
  sr := ev.sr
  len := by rw [List.length_set, List.length_set]; exact ev.len
  sl := fun j u q => by
    by_cases z : i = j
    · subst z
      by_cases hi : i < e.length
      · rw [List.getElem?_set_self hi] at q
        cases q
        exact ⟨_, by rw [List.getElem?_set_self (by rw [ev.len]; exact hi)], x, by simp [EC.push], rfl⟩
      · rw [List.getElem?_eq_none_iff.mpr (by rw [List.length_set]; omega)] at q; cases q
    · rw [List.getElem?_set_ne z] at q
      rw [List.getElem?_set_ne z]
      obtain ⟨v, h1, h2⟩ := ev.sl j u q
      refine ⟨v, h1, ?_⟩
      cases u with
      | v d => exact h2
      | x k =>
        obtain ⟨y, h3, h4⟩ := h2
        exact ⟨y, by show (c.xs ++ [x])[k]? = some y; rw [List.getElem?_append_left (List.getElem?_eq_some_iff.mp h3).1]; exact h3, h4⟩
  xs := fun k y q => by
    change (c.xs ++ [x])[k]? = some y at q
    by_cases hk : k < c.xs.length
    · rw [List.getElem?_append_left hk] at q; exact ev.xs k y q
    · rw [List.getElem?_append_right (by omega)] at q
      cases e1 : k - c.xs.length with
      | zero => rw [e1] at q; cases q; exact xr
      | succ n => rw [e1] at q; cases q
theorem env_pop {c : EC} {σ : L2.St} {e : Env} {x : XE} {i : Nat} (ev : EnvR (c.push x) σ H e S π) : EnvR c (σ.set i none) H ((e.map (clr c.xs.length)).set i none) S π where
  sr := ev.sr
  len := by rw [List.length_set, List.length_set, List.length_map]; exact ev.len
  sl := fun j u q => by
    by_cases z : i = j
    · subst z
      by_cases hi : i < (e.map (clr c.xs.length)).length
      · rw [List.getElem?_set_self hi] at q; cases q
      · rw [List.getElem?_eq_none_iff.mpr (by rw [List.length_set]; omega)] at q; cases q
    · rw [List.getElem?_set_ne z, List.getElem?_map] at q
      rw [List.getElem?_set_ne z]
      obtain ⟨w, hw, q⟩ := Option.map_eq_some_iff.mp q
      cases w with
      | none => cases q
      | some w =>
        cases w with
        | v d =>
          cases q
          exact ev.sl j (.v d) hw
        | x k =>
          unfold clr at q
          dsimp only at q
          split at q
          · rename_i hk
            cases q
            obtain ⟨v, h1, y, h3, h4⟩ := ev.sl j (.x k) hw
            refine ⟨v, h1, y, ?_, h4⟩
            change (c.xs ++ [x])[k]? = some y at h3
            rwa [List.getElem?_append_left hk] at h3
          · cases q
  xs := fun k y q => ev.xs k y (by show (c.xs ++ [x])[k]? = some y; rw [List.getElem?_append_left (List.getElem?_eq_some_iff.mp q).1]; exact q)
def tsu (c : EC) (gs : Nat → Option (List (Str × D)) → Sx) : TSu := fun a cls d oe pn D σ H => ∃ C x, cls = .ref (c.cl C) ∧ StT (c.push ⟨a, C, d, x⟩) wF (gs C x) D σ H
theorem s_tryOnly {c : EC} {Cx : Nat} {tbl : Nat → Option Bool} {gb gs : Sx} (h : PS X st (tTryOnly K (exV c.cl Cx) (fun W _ _ => StT c W gb) (fun _ _ _ _ _ => StT c wF gs) W)) (hK : K = c.K)
    (hE : ∀ C b, tbl C = some b → PySem.W.exmOne c.K (exV c.cl C) (exV c.cl Cx) = some b) : PS X st (StT c W (sTryOnly tbl gb gs)) := h.weak fun D σ H ⟨e, S, π, ev, q⟩ => by
  subst hK
  intro pn xe
  refine ⟨e, S, π, ev, ?_⟩
  unfold sTryOnly at q
  revert q
  cases gb e S with
  | nx e2 S2 => exact fun q => q
  | ct e2 S2 => exact fun q => q
  | bk e2 S2 => exact fun q => q
  | rt d S2 => exact fun q => q
  | no => exact fun q => q
  | er C x e1 S1 =>
    intro q σ' H' π' dd x' ev' xr
    dsimp only at q
    split at q
    · rename_i hb
      refine ⟨true, hE _ _ hb, fun _ a ha oe pn => ⟨e1, S1, π', ev', ?_⟩, fun z => by cases z⟩
      have q2 := RunS.ext q x'
      revert q2
      cases gs e1 S1 with
      | nx e2 S2 => exact fun q => q
      | ct e2 S2 => exact fun q => q
      | bk e2 S2 => exact fun q => q
      | rt d S2 => exact fun q => q
      | er C y e2 S2 => exact fun q => q.elim
      | no => exact fun q => q.elim
    · rename_i hb
      exact ⟨false, hE _ _ hb, (fun z => by cases z), fun _ => q σ' H' π' dd x' ev' xr⟩
    · exact q.elim
end
def isIns (C : Nat) (o : D) (S : Sto) : Bool := match o with
  | .ref l => (match S[l]? with | some (.obj C' _) => decide (C' = C) | _ => false)
  | _ => false
/-- x op y, both of class C, by the def F -/
def dOwn (C : Nat) (F : List D → Sto → Res D) (x y : D) (S : Sto) : Res D := if isIns C x S = true ∧ isIns C y S = true then (match F [x, y] S with | .ok d S' => .ok d S' | _ => .no) else .no
section
variable {K : PySem.W.Frag} {c : EC} {X : Cx} {W : WX} {ex tg : Expr} {st : Stmt} {sts : List Stmt} {fa fo fi : Ex} {aa : Ax} {tb : Bx} {f g : Sx} {H : Hp} {π : List Addr} {S : Sto} {F : List D → Sto → Res D}
theorem isIns_at {C : Nat} {x : V} {o : D} (s : SR c.K c.cl H π S) (r : VR c.K H π x o) (h : isIns C o S = true) : ∃ a dx fs, x = .ref a ∧ H a = some (.ins (c.cl C) dx fs) := by
  unfold isIns at h
  split at h
  · obtain ⟨a, rfl, hl⟩ := r.refI
    split at h
    · rename_i C' fs hS
      rw [decide_eq_true_eq] at h
      subst h
      obtain ⟨dx, gs, h3, h4⟩ := s.at_ _ _ _ hl hS
      exact ⟨a, dx, gs, rfl, h3⟩
    · cases h
  · cases h
/-- a call that lets nothing out -/
theorem fnP_quiet {p : Nat} {vs : List V} {ds : List D} {Q : VK} {E : XK} (s : SR c.K c.cl H π S) (r : VRs c.K H π vs ds) (hl : vs.length = p) (q : ∃ d S', F ds S = .ok d S' ∧ ∀ v H' π', Ext H π H' π' → SR c.K c.cl H' π' S' → VR c.K H' π' v d → Q v H') : FnP c.K c.cl p F vs H Q E := by
  obtain ⟨d, S', e, q⟩ := q
  exact ⟨hl, ds, S, π, s, r, by rw [e]; exact q⟩
theorem os_own {C : Nat} {E : XK} : OpS c (rOwn2 (c.cl C) (FnP c.K c.cl 2 F) E) (dOwn C F) := by
  intro W σ H π S x y dx dy Q s rx ry q
  unfold dOwn at q
  split at q
  · rename_i h
    obtain ⟨a, d1, fs, rfl, h1⟩ := isIns_at s rx h.1
    obtain ⟨b, d2, gs, rfl, h2⟩ := isIns_at s ry h.2
    refine ⟨a, b, d1, d2, fs, gs, rfl, rfl, h1, h2, fnP_quiet s (.cons rx (.cons ry .nil)) rfl ?_⟩
    split at q
    · rename_i d S' e; exact ⟨d, S', e, q⟩
    · exact q.elim
  · exact q.elim
end
end Pu
namespace Pu
open L2 PySem PySem.Spec PyProof.Rows Lb
section
variable {K : PySem.W.Frag} {c : EC} {X : Cx} {W : WX} {ex tg : Expr} {st : Stmt} {sts : List Stmt} {fa fo fi : Ex} {aa : Ax} {tb : Bx} {f g : Sx} {H H' : Hp} {π : List Addr} {S : Sto} {a : Addr}
/-- apart from a, which is no tuple and no locked list, what never changes stays -/
structure Off (a : Addr) (H H' : Hp) : Prop where
  im : ∀ b u, b ≠ a → H b = some u → ¬ Mut (some u) → H' b = some u
  h1 : ∀ xs : List V, H a ≠ some (.tup xs)
  h2 : ∀ (o : Obj) (xs : List V), H a ≠ some (.frz o (.lst xs))
  h3 : ∀ (o : Obj) (xs : List V), H a ≠ some (.frz o (.tup xs))
  h4 : ∀ fs : List (Str × V), H a ≠ some (.xd fs)
theorem Off.vr (h : Off a H H') {v : V} {d : D} (q : VR K H π v d) : VR K H' π v d := by
  have sqT : ∀ {b : Addr} {xs : List V}, SqT K H b xs → SqT K H' b xs := by
    intro b xs q
    rcases q with (q | ⟨o, q⟩) | q
    · exact .inl (.inl (h.im _ _ (fun z => by subst z; exact h.h1 _ q) q (fun z => z)))
    · exact .inl (.inr ⟨o, h.im _ _ (fun z => by subst z; exact h.h3 _ _ q) q (fun z => z)⟩)
    · exact .inr q
  refine VR.rec (motive_1 := fun v d _ => VR K H' π v d) (motive_2 := fun v d _ => VRs K H' π v d) .non .bl .int .str (fun {b xs ds} hh _ r => ?_) (fun h _ r => .ktu (sqT h) r) (fun {b xs ds} hh _ r => ?_) (fun h => .ref h) .nil (fun _ _ a b => .cons a b) q
  · exact .tup (h.im _ _ (fun z => h.h1 _ (by rw [← z]; exact hh)) hh (fun z => z)) r
  · rcases hh with ⟨o, hh⟩ | hh
    · exact .lsf (.inl ⟨o, h.im _ _ (fun z => h.h2 _ _ (by rw [← z]; exact hh)) hh (fun z => z)⟩) r
    · exact .lsf (.inr hh) r
theorem Off.pr (h : Off a H H') {κ : Type} {x : List (κ × V)} {y : List (κ × D)} (q : PR K H π x y) : PR K H' π x y := by
  induction q with
  | nil => exact .nil
  | cons q r ih => exact .cons (h.vr q) ih
theorem Off.xr (h : Off a H H') {d : Option Addr} {x : Option (List (Str × D))} (q : XR K H π d x) : XR K H' π d x := by
  cases x with
  | none => exact q
  | some fs =>
    obtain ⟨dd, gs, rfl, q, r⟩ := q
    exact ⟨dd, gs, rfl, h.im _ _ (fun z => h.h4 _ (by rw [← z]; exact q)) q (fun z => z), h.pr r⟩
theorem Off.env {σ : L2.St} {e : Env} {S' : Sto} (h : Off a H H') (ev : EnvR c σ H e S π) (s : SR c.K c.cl H' π S') : EnvR c σ H' e S' π where
  sr := s
  len := ev.len
  sl := fun i d q => by
    obtain ⟨v, h1, h2⟩ := ev.sl i d q
    refine ⟨v, h1, ?_⟩
    cases d with
    | v d => exact h.vr h2
    | x k => exact h2
  xs := fun k x q => h.xr (ev.xs k x q)
end
end Pu
namespace Pu
open L2 PySem PySem.Spec PyProof.Rows Lb
section
variable {K : PySem.W.Frag} {c : EC} {X : Cx} {W : WX} {ex tg : Expr} {st : Stmt} {sts : List Stmt} {fa fb fo fi : Ex} {aa : Ax} {tb : Bx} {f g : Sx} {H H' : Hp} {π : List Addr} {S : Sto} {a : Addr}
theorem call_isiTK (h : X.K = K) : CallR X (.builtin "isinstance") (rIsiT K) := h ▸ call_isiT
theorem tYes_e {σ : L2.St} {H : Hp} {Q : Bool → Hp → Prop} (h : TsT c W bYes σ H Q) : tYes σ H Q := let ⟨e, S, π, ev, q⟩ := h; q true H π Ext.refl ev.sr rfl
end
theorem only_F {K : PySem.W.Frag} {H : Hp} {a : Addr} {xs : List V} (hO : Only H) (h : SqL K H a xs) : SqF K H a xs := by
  rcases h with (h | h) | h
  · rcases hO a with e | ⟨o, ys, e⟩
    · rw [h] at e; cases e
    · rw [h] at e; cases e
  · exact .inl h
  · exact .inr h
theorem vrs_ints {K : PySem.W.Frag} {π : List Addr} {H : Hp} : ∀ ns : List Int, VRs K H π (ns.map V.int) (ns.map D.int)
  | [] => .nil
  | _ :: ns => .cons (.int _) (vrs_ints ns)
def itR3 (a : Ax) : Ix := fun e S => (a e S).bind fun ds S1 => match ds with
  | [.int i, .int j, .int k] => if k ≠ 0 ∧ k.natAbs < 1073741824 ∧ Builtin.Range.small i j k = true ∧ 0 ≤ Builtin.Range.rangeSize i j k then .ok (none, (List.range (Builtin.Range.rangeSize i j k).toNat).map fun m => .int (i + (m : Nat) * k)) S1 else .no
  | _ => .no
def itRev (a : Ex) : Ix := fun e S => (a e S).bind fun d S1 => match d with
  | .ref l => (match S1[l]? with | some (.lst ds) => .ok (some (l, .lst ds), ds.reverse) S1 | _ => .no)
  | d => (match d.seq S1 with | some ds => .ok (none, ds.reverse) S1 | none => .no)
section
variable {K : PySem.W.Frag} {c : EC} {X : Cx} {W : WX} {ex tg : Expr} {fa : Ex} {aa : Ax} {H : Hp} {π : List Addr} {S : Sto}
theorem it_r3 (h : PI X tg ex (iRng3 (ArT c W aa))) : PI X tg ex (IterT c W (itR3 aa)) := h.weak fun σ H R ⟨e, S, π, ev, q⟩ =>
  ⟨e, S, π, ev, (run_bind (rel := rVs c) q).mono fun x H1 ⟨d, S1, π1, e1, s1, rx, q1⟩ => by
    split at q1
    · split at q1
      · rename_i hj
        obtain ⟨h1, h2, h3, h4⟩ := hj
        cases rx with
        | cons r rx => cases rx with
          | cons r' rx => cases rx with
            | cons r'' rx =>
              cases rx
              rw [r.intI, r'.intI, r''.intI]
              refine ⟨_, _, _, _, rfl, ⟨h1, h2, h3, (Int.toNat_of_nonneg h4).symm⟩, q1 _ _ _ Ext.refl s1 ?_⟩
              intro i H π S x s hk
              refine ⟨fun d hd => ?_, fun hi => ?_⟩
              · rw [List.getElem?_map] at hd
                obtain ⟨k, h1, rfl⟩ := Option.map_eq_some_iff.mp hd
                obtain ⟨h2, h3⟩ := List.getElem?_eq_some_iff.mp h1
                rw [List.getElem_range] at h3
                subst h3
                refine ⟨show i < _ by simpa using h2, fun y H' hy => ?_⟩
                obtain ⟨rfl, rfl⟩ := hy
                exact ⟨Ext.refl, s, .int _⟩
              · show _ ≤ i; simpa using hi
      · exact q1.elim
    · exact q1.elim⟩
theorem VRs.rev : ∀ {vs : List V} {ds : List D}, VRs K H π vs ds → VRs K H π vs.reverse ds.reverse
  | _, _, .nil => .nil
  | _, _, .cons h r => by
    rw [List.reverse_cons, List.reverse_cons]
    exact r.rev.append (.cons h .nil)
theorem it_rev (h : PI X tg ex (RT.iRevA K (EvT c W fa))) (hK : K = c.K) : PI X tg ex (IterT c W (itRev fa)) := h.weak fun σ H R ⟨e, S, π, ev, q⟩ =>
  ⟨e, S, π, ev, (run_bind (rel := rV c) q).mono fun x H1 ⟨d, S1, π1, e1, s1, rx, q1⟩ => by
    subst hK
    have gl : ∀ {xs : List V} {i : Nat} {H : Hp} {π : List Addr} {ds : List D} {d : D}, VRs c.K H π xs ds → ds.reverse[i]? = some d → ∃ v, xs[xs.length - 1 - i]? = some v ∧ i < xs.length ∧ VR c.K H π v d := by
      intro xs i H π ds d h2 hd
      obtain ⟨v, h3, h4⟩ := h2.rev.get hd
      have hi : i < xs.length := by simpa using (List.getElem?_eq_some_iff.mp h3).1
      exact ⟨v, by rw [← List.getElem?_reverse hi]; exact h3, hi, h4⟩
    split at q1
    · obtain ⟨a, rfl, hl⟩ := rx.refI
      split at q1
      · rename_i ds hS
        obtain ⟨xs0, h1, h2⟩ := s1.at_ _ _ _ hl hS
        refine ⟨a, xs0, rfl, .inl ⟨SqL.of h1, q1 _ _ _ Ext.refl s1 fun i H π S x s hk => ?_⟩⟩
        obtain ⟨xs, h1', h2'⟩ := s.at_ _ _ _ (x.get hl) hk
        have hlen : xs0.length = xs.length := by rw [h2.len, h2'.len]
        refine ⟨fun d hd => ?_, fun hi => by show xs0.length ≤ i; rw [h2.len]; simpa using hi⟩
        obtain ⟨v, h3, h5, h4⟩ := gl h2' hd
        refine ⟨⟨by omega, xs, v, SqL.of h1', by rw [hlen]; exact h3⟩, fun y H' hy => ?_⟩
        obtain ⟨rfl, hy⟩ := hy
        have := hy xs (SqL.of h1')
        rw [hlen, h3] at this
        cases this
        exact ⟨Ext.refl, s, h4⟩
      · exact q1.elim
    · rename_i n2
      split at q1
      · rename_i ds hd
        cases rx with
        | tup h r =>
          cases hd
          refine ⟨_, _, rfl, .inr ⟨SqT.of h, q1 _ _ _ Ext.refl s1 fun i H π S x s hk => ?_⟩⟩
          have h1 : SqT c.K H _ _ := x.i.sqT (SqT.of h)
          have h2 := r.ext x
          refine ⟨fun d hd => ?_, fun hi => by show _ ≤ i; rw [r.len]; simpa using hi⟩
          obtain ⟨v, h3, h5, h4⟩ := gl h2 hd
          refine ⟨⟨h5, _, v, h1, h3⟩, fun y H' hy => ?_⟩
          obtain ⟨rfl, hy⟩ := hy
          have := hy _ h1
          rw [h3] at this
          cases this
          exact ⟨Ext.refl, s, h4⟩
        | ktu h r =>
          cases hd
          refine ⟨_, _, rfl, .inr ⟨h, q1 _ _ _ Ext.refl s1 fun i H π S x s hk => ?_⟩⟩
          have h1 : SqT c.K H _ _ := x.i.sqT h
          have h2 := r.ext x
          refine ⟨fun d hd => ?_, fun hi => by show _ ≤ i; rw [r.len]; simpa using hi⟩
          obtain ⟨v, h3, h5, h4⟩ := gl h2 hd
          refine ⟨⟨h5, _, v, h1, h3⟩, fun y H' hy => ?_⟩
          obtain ⟨rfl, hy⟩ := hy
          have := hy _ h1
          rw [h3] at this
          cases this
          exact ⟨Ext.refl, s, h4⟩
        | lsf h r =>
          cases hd
          refine ⟨_, _, rfl, .inl ⟨h.l, q1 _ _ _ Ext.refl s1 fun i H π S x s hk => ?_⟩⟩
          have h1 := (x.i.sqF h).l
          have h2 := r.ext x
          refine ⟨fun d hd => ?_, fun hi => by show _ ≤ i; rw [r.len]; simpa using hi⟩
          obtain ⟨v, h3, h5, h4⟩ := gl h2 hd
          refine ⟨⟨h5, _, v, h1, h3⟩, fun y H' hy => ?_⟩
          obtain ⟨rfl, hy⟩ := hy
          have := hy _ h1
          rw [h3] at this
          cases this
          exact ⟨Ext.refl, s, h4⟩
        | ref h => exact absurd rfl (n2 _)
        | _ => cases hd
      · exact q1.elim⟩
end
def dInD (x y : D) (S : Sto) : Res D := match inD x y S with
  | some b => .ok (.bl b) S
  | none => match toP 30 S x, toP 30 S y with
    | some p, some (.tuple qs) => if SeqAt.shaped p = true ∧ SeqAt.shaped (.tuple qs) = true then .ok (.bl (qs.any fun y => PyData.eqv y p)) S else .no
    | some p, some (.list qs) => if SeqAt.shaped p = true ∧ SeqAt.shaped (.list qs) = true then .ok (.bl (qs.any fun y => PyData.eqv y p)) S else .no
    | _, _ => .no
def dNinD (x y : D) (S : Sto) : Res D := match inD x y S with
  | some b => .ok (.bl (!b)) S
  | none => match toP 30 S x, toP 30 S y with
    | some p, some (.tuple qs) => if SeqAt.shaped p = true ∧ SeqAt.shaped (.tuple qs) = true then .ok (.bl (!qs.any fun y => PyData.eqv y p)) S else .no
    | some p, some (.list qs) => if SeqAt.shaped p = true ∧ SeqAt.shaped (.list qs) = true then .ok (.bl (!qs.any fun y => PyData.eqv y p)) S else .no
    | _, _ => .no
def rInDT (K : PySem.W.Frag) (neg : Bool) : R2 := fun x y H Q => ∃ d ds, Dp K H x d ∧ (Dp K H y (.tuple ds) ∧ SeqAt.shaped (.tuple ds) = true ∨ Dp K H y (.list ds) ∧ SeqAt.shaped (.list ds) = true) ∧ SeqAt.shaped d = true ∧ Q (.bl (if neg = true then !ds.any fun y => PyData.eqv y d else ds.any fun y => PyData.eqv y d)) H
section
variable {K : PySem.W.Frag} {c : EC} {X : Cx} {H : Hp} {π : List Addr} {S : Sto}
theorem op_inDT (hu : X.A.units + 65 < cLine) : OpR X (compareOp .In) (rInDT X.K false) := by
  intro pins s σ H x y v u Q I rx ry h
  obtain ⟨d, ds, hd, he, sd, q⟩ := h
  obtain ⟨as, r1⟩ := Dp.reads I d x v hd rx
  rcases he with ⟨he, se⟩ | ⟨he, se⟩
  · obtain ⟨bs, r2⟩ := Dp.reads I _ y u he ry
    exact SeqAt.in_tuple_reads r2 r1 (by have := SeqAt.canLay_of_shaped se; simpa only [PyData.canLay0] using this) (SeqAt.canLay_of_shaped sd) (room_in_shaped sd hu) ⟨.bl _, H, I, rfl, q⟩
  · obtain ⟨bs, r2⟩ := Dp.reads I _ y u he ry
    exact SeqAt.in_list_reads r2 r1 (SeqAt.canLay_of_shaped se) (SeqAt.canLay_of_shaped sd) (room_in_shaped sd hu) ⟨.bl _, H, I, rfl, q⟩
theorem op_inX (h : X.K = K) (hu : X.A.units + 65 < cLine) : OpR X (compareOp .In) (fun x y H Q => rInP K false x y H Q ∨ rInDT K false x y H Q) := h ▸ (op_inP (by omega) rfl).or (op_inDT hu)
theorem os_inX (hK : K = c.K) : OpS c (fun x y H Q => rInP K false x y H Q ∨ rInDT K false x y H Q) dInD := by
  intro W σ H π S x y dx dy Q s rx ry q
  subst hK
  unfold dInD at q
  split at q
  · rename_i b e
    exact .inl (in_at s rx ry e (q _ _ _ Ext.refl s (.bl _)))
  · split at q
    · rename_i h1 h2
      split at q
      · rename_i h3
        exact .inr ⟨_, _, VR.dp s _ _ _ _ rx h1, .inl ⟨VR.dp s _ _ _ _ ry h2, h3.2⟩, h3.1, q _ _ _ Ext.refl s (.bl _)⟩
      · exact q.elim
    · rename_i h1 h2
      split at q
      · rename_i h3
        exact .inr ⟨_, _, VR.dp s _ _ _ _ rx h1, .inr ⟨VR.dp s _ _ _ _ ry h2, h3.2⟩, h3.1, q _ _ _ Ext.refl s (.bl _)⟩
      · exact q.elim
    · exact q.elim
end
theorem hu65 {k : Nat} {A : Around} (r : Room k A) : A.units + 65 < cLine := by have := r.un; omega
def hitsD (S : Sto) (ls : List (Key × D)) : List (Key × D) → Option Bool
  | [] => some true
  | p :: r => match valD p.1 ls with
    | none => some false
    | some d => match toP 30 S p.2, toP 30 S d, hitsD S ls r with
      | some x, some y, some b => if SeqAt.shaped x = true ∧ SeqAt.shaped y = true then some (PyData.eqv x y && b) else none
      | _, _, _ => none
def eqX (x y : D) (S : Sto) : Option Bool := match x, y with
  | .ref l, .ref m => (match S[l]?, S[m]? with
    | some (.dic ks), some (.dic ls) => (hitsD S ls ks).map fun b => ks.length == ls.length && b
    | _, _ => eqD x y S)
  | _, _ => eqD x y S
def dEqX (x y : D) (S : Sto) : Res D := match eqX x y S with | some b => .ok (.bl b) S | none => .no
def dNeX (x y : D) (S : Sto) : Res D := match eqX x y S with | some b => .ok (.bl (!b)) S | none => .no
inductive HitsV (K : PySem.W.Frag) (H : Hp) (ls : List (Key × V)) : List (Key × V) → Bool → Prop
  | nil : HitsV K H ls [] true
  | miss {k : Key} {v : V} {r : List (Key × V)} : valV ls k = none → HitsV K H ls ((k, v) :: r) false
  | hit {k : Key} {v u : V} {r : List (Key × V)} {p q : PyData} {b : Bool} : valV ls k = some u → Dp K H v p → Dp K H u q → SeqAt.shaped p = true → SeqAt.shaped q = true → HitsV K H ls r b → HitsV K H ls ((k, v) :: r) (PyData.eqv p q && b)
def rEqDD (K : PySem.W.Frag) (neg : Bool) : R2 := fun x y H Q => ∃ a b ks ls r, x = .ref a ∧ y = .ref b ∧ H a = some (.dK ks) ∧ H b = some (.dK ls) ∧ HitsV K H ls ks r ∧ Q (.bl (if neg = true then !(ks.length == ls.length && r) else (ks.length == ls.length && r))) H
section
variable {K : PySem.W.Frag} {c : EC} {X : Cx} {H : Hp} {π : List Addr} {S : Sto} {pins : List (Addr × Obj)} {σ : L2.St} {s : Shared}
theorem hitsV_run (I : Inv X pins σ H s) {A : Around} (hu : A.units + 64 < cLine) {ls : List (Key × V)} {vb : List (Key × Value)} (rb : KV ls vb) {ks : List (Key × V)} {va : List (Key × Value)} (ra : KV ks va) :
    ∀ {r : Bool}, HitsV X.K H ls ks r → PySem.W.KeqHits A s vb va r := by
  unfold KV at ra
  induction ra with
  | nil => intro r h; cases h; exact .nil
  | @cons p q ps qs h1 t ih =>
    intro r h
    obtain ⟨e1, h2⟩ := h1
    obtain ⟨k, vv⟩ := q
    cases h with
    | @miss k1 v1 r1 h =>
      have e1 : k1 = k := e1
      subst e1
      refine .miss (RelO.none_of ?_)
      have z := rb.val k1
      rw [h] at z
      exact z
    | @hit k1 v1 u r1 x y b h hp hq s1 s2 h3 =>
      have e1 : k1 = k := e1
      subst e1
      have z := rb.val k1
      rw [h] at z
      obtain ⟨w, hw, rw_⟩ := RelO.some_of z
      obtain ⟨as, p1⟩ := Dp.reads I _ _ _ hp h2
      obtain ⟨bs, p2⟩ := Dp.reads I _ _ _ hq rw_
      exact .hit hw (SeqAt.eqAt_reads _ _ _ _ _ _ _ _ p1 p2 (SeqAt.canLay_of_shaped s1) (SeqAt.canLay_of_shaped s2) (SeqAt.room_of_shaped s1 hu)) (ih h3)
theorem op_eqDD (hu : X.A.units + 65 < cLine) : OpR X (compareOp .Eq) (rEqDD X.K false) := by
  intro pins s σ H x y v u Q I rx ry h
  obtain ⟨a, b, ks, ls, r, rfl, rfl, ea, eb, hv, q⟩ := h
  obtain rfl : v = Value.ref a := rx
  obtain rfl : u = Value.ref b := ry
  obtain ⟨_, ya, va, ra, da⟩ := (show ObjOk X.prog X.w H s.heap a (.dK ks) from I.hok a _ ea)
  obtain ⟨_, yb, vb, rb, db⟩ := (show ObjOk X.prog X.w H s.heap b (.dK ls) from I.hok b _ eb)
  refine PySem.W.keq_eq (knd := mixKind X.prog X.w) ya yb da db (by omega) (fun _ => hitsV_run I (by show X.A.units + 1 + 64 < cLine; omega) rb ra hv) (fin_bl I q ?_)
  rw [if_neg (by simp), ra.length, rb.length]
theorem op_neDD (hu : X.A.units + 65 < cLine) : OpR X (compareOp .NotEq) (rEqDD X.K true) := by
  intro pins s σ H x y v u Q I rx ry h
  obtain ⟨a, b, ks, ls, r, rfl, rfl, ea, eb, hv, q⟩ := h
  obtain rfl : v = Value.ref a := rx
  obtain rfl : u = Value.ref b := ry
  obtain ⟨_, ya, va, ra, da⟩ := (show ObjOk X.prog X.w H s.heap a (.dK ks) from I.hok a _ ea)
  obtain ⟨_, yb, vb, rb, db⟩ := (show ObjOk X.prog X.w H s.heap b (.dK ls) from I.hok b _ eb)
  refine PySem.W.keq_ne (knd := mixKind X.prog X.w) ya yb da db (by omega) (fun _ => hitsV_run I (by show X.A.units + 1 + 64 < cLine; omega) rb ra hv) (fin_bl I q ?_)
  rw [if_pos rfl, ra.length, rb.length]
theorem hitsD_at {cl : Nat → Addr} (s : SR K cl H π S) {wl : List (Key × V)} {ls : List (Key × D)} (rl : PR K H π wl ls) : ∀ {ws : List (Key × V)} {ks : List (Key × D)} {b : Bool}, PR K H π ws ks → hitsD S ls ks = some b → HitsV K H wl ws b
  | _, _, _, .nil, e => by cases e; exact .nil
  | _, _, _, .cons (k := k) h r, e => by
    unfold hitsD at e
    split at e
    · rename_i hn
      cases e
      exact .miss ((pr_val rl).2 hn)
    · rename_i d hd
      split at e
      · rename_i x y b h1 h2 h3
        split at e
        · rename_i h4
          cases e
          obtain ⟨u, hu, ru⟩ := (pr_val rl).1 d hd
          exact .hit hu (VR.dp s _ _ _ _ h h1) (VR.dp s _ _ _ _ ru h2) h4.1 h4.2 (hitsD_at s rl r h3)
        · cases e
      · cases e
def rEqX (K : PySem.W.Frag) : R2 := fun x y H Q => rEqA K x y H Q ∨ rEqDD K false x y H Q
def rNeX (K : PySem.W.Frag) : R2 := fun x y H Q => rNeA K x y H Q ∨ rEqDD K true x y H Q
theorem op_eqX (h : X.K = K) (hu : X.A.units + 65 < cLine) : OpR X (compareOp .Eq) (rEqX K) := h ▸ (op_eqA (by omega)).or (op_eqDD hu)
theorem op_neX (h : X.K = K) (hu : X.A.units + 65 < cLine) : OpR X (compareOp .NotEq) (rNeX K) := h ▸ (op_neA (by omega)).or (op_neDD hu)
theorem eqX_at {cl : Nat → Addr} (s : SR K cl H π S) {x y : V} {dx dy : D} {b : Bool} (rx : VR K H π x dx) (ry : VR K H π y dy) (e : eqX dx dy S = some b) :
    eqD dx dy S = some b ∨ ∃ a a' ks ls r, x = .ref a ∧ y = .ref a' ∧ H a = some (.dK ks) ∧ H a' = some (.dK ls) ∧ HitsV K H ls ks r ∧ b = (ks.length == ls.length && r) := by
  unfold eqX at e
  split at e
  · obtain ⟨a, rfl, hl⟩ := rx.refI
    obtain ⟨a', rfl, hl'⟩ := ry.refI
    split at e
    · rename_i ks ls h1 h2
      obtain ⟨r, h3, rfl⟩ := Option.map_eq_some_iff.mp e
      obtain ⟨ws, k1, k2⟩ := s.at_ _ _ _ hl h1
      obtain ⟨wl, k3, k4⟩ := s.at_ _ _ _ hl' h2
      exact .inr ⟨a, a', ws, wl, r, rfl, rfl, k1, k3, hitsD_at s k4 k2 h3, by rw [pr_len k2, pr_len k4]⟩
    · exact .inl e
  · exact .inl e
theorem os_eqX (hK : K = c.K) : OpS c (rEqX K) dEqX := by
  intro W σ H π S x y dx dy Q s rx ry q
  subst hK
  unfold dEqX at q
  split at q
  · rename_i b e
    rcases eqX_at s rx ry e with e | ⟨a, a', ks, ls, r, rfl, rfl, h1, h2, h3, rfl⟩
    · refine .inl (os_eq rfl (W := W) (σ := σ) s rx ry ?_)
      unfold dEq; rw [e]; exact q
    · exact .inr ⟨a, a', ks, ls, r, rfl, rfl, h1, h2, h3, by rw [if_neg (by simp)]; exact q _ _ _ Ext.refl s (.bl _)⟩
  · exact q.elim
theorem os_neX (hK : K = c.K) : OpS c (rNeX K) dNeX := by
  intro W σ H π S x y dx dy Q s rx ry q
  subst hK
  unfold dNeX at q
  split at q
  · rename_i b e
    rcases eqX_at s rx ry e with e | ⟨a, a', ks, ls, r, rfl, rfl, h1, h2, h3, rfl⟩
    · refine .inl (os_ne rfl (W := W) (σ := σ) s rx ry ?_)
      unfold dNe; rw [e]; exact q
    · exact .inr ⟨a, a', ks, ls, r, rfl, rfl, h1, h2, h3, by rw [if_pos rfl]; exact q _ _ _ Ext.refl s (.bl _)⟩
  · exact q.elim
end
def isDic (o : D) (S : Sto) : Bool := match o with
  | .ref l => (match S[l]? with | some (.dic _) => true | _ => false)
  | _ => false
theorem law_fn {K : PySem.W.Frag} {cl : Nat → Addr} {H : Hp} {a : Addr} {ns : List Int} {Q : VK} {E : XK} {F : List D → Sto → Res D} {S' : Sto} (hS : SqF K H a (ns.map V.int)) (e : F [.lsf (ns.map D.int)] [] = .ok (.bl true) S') (k : ∀ H', Q (.bl true) H') : FnP K cl 1 F [.ref a] H Q E := by
  refine ⟨rfl, [.lsf (ns.map D.int)], [], [], ⟨rfl, List.nodup_nil, fun l a o h => by simp at h⟩, .cons (.lsf hS (vrs_ints ns)) .nil, ?_⟩
  rw [e]
  intro v H' π' x s r
  rw [r.blI]; exact k H'
end Pu
namespace Pu
open L2 PySem PySem.Spec PyProof.Rows Lb
/-- an error `e` of class `cl` is at hand in a try statement -/
structure Cau (X : Cx) (pins : List (Addr × Obj)) (σ : L2.St) (H : Hp) (e : Addr) (cl : Value) (d : Option Addr) (t : Shared) : Prop where
  ex : ∃ (B : Heap) (t0 : Shared), L2.Inv X pins σ H t0 ∧ (∀ b o, t0.heap.get? b = some o → b ∉ frs X.stack → B.get? b = some o) ∧ t0.heap.UpToSlots t.heap ∧ HandSPX.FlyingZ B (X.env :: X.outer) e (Zc cl d) t.heap ∧ t.os = t0.os ∧ AllBare t.gens
  no : H e = none
section
variable {X : Cx} {pins : List (Addr × Obj)} {σ : L2.St} {H : Hp} {e : Addr} {cl : Value} {d : Option Addr} {t : Shared}
theorem Cau.now (C : Cau X pins σ H e cl d t) : L2.Inv X pins σ H t := let ⟨_, _, J, k1, k2, k3, k4, k5⟩ := C.ex; J.landed k1 k3.1 k2 k4 k5
theorem Cau.obj (C : Cau X pins σ H e cl d t) : ∃ o vs, t.heap.get? e = some o ∧ Zc cl d o ∧ o.data = .fields vs := let ⟨_, _, _, _, _, k3, _, _⟩ := C.ex; k3.there
/-- the error is none of the frames -/
theorem Cau.off (C : Cau X pins σ H e cl d t) (hs : X.stack = X.env :: X.outer) : e ∉ frs X.stack := by
  obtain ⟨_, _, _, _, _, k3, _, _⟩ := C.ex
  obtain ⟨o, vs, ho, _, hv⟩ := C.obj
  rw [hs]
  intro m
  obtain ⟨_, o2, ho2, hn⟩ := k3.2.2.1.mem m
  rw [ho] at ho2
  cases ho2
  exact hn _ hv
theorem Cau.sui (C : Cau X pins σ H e cl d t) (hs : X.stack = X.env :: X.outer) (hf : X.env.frame = some X.env.locals) {o : Obj} {vs : Array Value} (ho : t.heap.get? e = some o) (hv : o.data = .fields vs) : L2.Inv (X.suite e ((e, o) :: (X.pn ++ pins))) [] σ H t := by
  have off := C.off hs
  rw [hs] at off
  refine C.now.suite ho hv C.no (fun z => off (List.mem_filterMap.mpr ⟨X.env, by simp, by rw [hf, z]⟩)) (fun m => off ?_)
  obtain ⟨v, hm, hq⟩ := List.mem_filterMap.mp m
  exact List.mem_filterMap.mpr ⟨v, by simp [hm], hq⟩
theorem Cau.land (C : Cau X pins σ H e cl d t) {E : Value → Shared → Prop} {Q : Unit → Shared → Prop} {M : Model} {A : Around} (k : ∀ t', Cau X pins σ H e cl d t' → Q () t') : wpAny M A (setFlight (.ref e) none) Q E t := by
  obtain ⟨B, t0, J, k1, k2, k3, k4, k5⟩ := C.ex
  exact HandSPX.lands_againZ k3 fun g f u => k { t with heap := g } ⟨⟨B, t0, J, k1, k2.trans u, f, k4, k5⟩, C.no⟩
/-- no clause takes it -/
theorem Cau.out (C : Cau X pins σ H e cl d t) (hs : X.stack = X.env :: X.outer) (hf : X.env.frame = some X.env.locals) {W : WX} {D : Ends} (tk : Takes X W) (w : W cl d σ H) : wpAny (model X.prog X.w) X.A (handleBy (.ref e) X.env []) (SP X pins D) X.xe t := by
  obtain ⟨B, t0, J, k1, k2, k3, k4, k5⟩ := C.ex
  have away : wpAny (model X.prog X.w) X.A (setFlight (.ref e) X.env.frame) (fun _ u => wpAny (model X.prog X.w) X.A (throw (.ref e) : Sem Flow) (SP X pins D) X.xe u) X.xe t := by
    rw [hf]
    exact HandSPX.setFlight_upZ k3 fun g hg u => wpAny_throw (tk _ _ ⟨e, B, t0, pins, σ, H, cl, d, rfl, J, k1, k2.trans u, .inr (.inr (hs ▸ hg)), C.no, k4, k5, w⟩)
  obtain ⟨_, _, _, o, vs, T, oT, ts', ho, hz, hv, h1, hr⟩ := id k3
  refine wpAny_handleBy_nil ?_
  unfold PySem.passOn
  refine wpAny_bind (wpAny_field ho hv h1 ?_)
  rw [if_neg (show ¬ ((Value.ref T == Value.none) = true) by simp)]
  first | exact wpAny_bind (wpAny_pure (wpAny_bind away)) | exact wpAny_bind away
end
/-- the clauses: the class, the slot of the name, the suite -/
abbrev TSL := List (Value × Option Nat × TSu)
def endsN (D : Ends) (i : Nat) : Ends := { nx := fun σ H => D.nx (σ.set i none) H, rt := D.rt, bk := fun σ H => D.bk (σ.set i none) H, ct := fun σ H => D.ct (σ.set i none) H }
def suiN (o : Option Nat) (ts : TSu) (e : Addr) (cl : Value) (d : Option Addr) (oe : Obj) (pn : List (Addr × Obj)) (D : Ends) (σ : L2.St) (H : Hp) : Prop := match o with
  | none => ts e cl d oe pn D σ H
  | some i => ts e cl d oe pn (endsN D i) (σ.set i (some (.ref e))) H
def wMn (K : PySem.W.Frag) (W : WX) (D : Ends) : TSL → WX
  | [] => W
  | (c, o, ts) :: r => fun cl d σ H => ∃ b, PySem.W.exmOne K cl c = some b ∧ (b = true → ∀ e, H e = none → ∀ oe pn, suiN o ts e cl d oe pn D σ H) ∧ (b = false → wMn K W D r cl d σ H)
inductive ClR (X : Cx) : Option Str → Option Nat → Prop
  | none : ClR X none none
  | some {n : Str} {i : Nat} (hN : X.N.Nodup) (hi : X.N[i]? = some n) (hl : X.env.kindOf n = some .local) : ClR X (some n) (some i)
inductive HdM (X : Cx) : List ExceptHandler → TSL → Prop
  | nil : HdM X [] []
  | cons {x : Str} {n : Option Str} {i : Option Nat} {c : Value} {ts : TSu} {b0 : Stmt} {bs : List Stmt} {p1 p2 : Pos} {hs : List ExceptHandler} {l : TSL} (hn : ClR X n i) (hc : Names X x c)
      (hsu : ∀ (e : Addr) (o : Obj) (cl : Value) (d : Option Addr) (pn : List (Addr × Obj)), Zc cl d o → (∃ vs, o.data = .fields vs) → PSs (X.suite e ((e, o) :: pn)) (b0 :: bs) (ts e cl d o pn)) (r : HdM X hs l) : HdM X (.ExceptHandler (some (.Name x p1)) n (b0 :: bs) p2 :: hs) ((c, i, ts) :: l)
section
variable {X : Cx} {pins : List (Addr × Obj)} {σ : L2.St} {H : Hp} {e : Addr} {cl : Value} {d : Option Addr} {t : Shared}
theorem sp_back {o : Obj} {D : Ends} {f : Flow} {u : Shared} (ok : X.Ok) (h : SP (X.suite e ((e, o) :: (X.pn ++ pins))) [] D f u) : SP X pins D f u := by
  cases f with
  | ret y => obtain ⟨v, σ', H', J, r, q⟩ := h; exact ⟨v, σ', H', J.unsuite ok, r, q⟩
  | next => obtain ⟨σ', H', J, q⟩ := h; exact ⟨σ', H', J.unsuite ok, q⟩
  | brk => obtain ⟨σ', H', J, q⟩ := h; exact ⟨σ', H', J.unsuite ok, q⟩
  | cont => obtain ⟨σ', H', J, q⟩ := h; exact ⟨σ', H', J.unsuite ok, q⟩
theorem Cau.by (hs : X.stack = X.env :: X.outer) (hf : X.env.frame = some X.env.locals) {W : WX} {D : Ends} (tk : Takes X W) (ok : X.Ok) {hds : List ExceptHandler} {l : TSL} (hh : HdM X hds l) (C : Cau X pins σ H e cl d t) : wMn X.K W D l cl d σ H → wpAny (model X.prog X.w) X.A (handleBy (.ref e) X.env hds) (SP X pins D) X.xe t := by
  induction hh with
  | nil => exact fun w => C.out hs hf tk w
  | @cons x n i c ts b0 bs p1 p2 hds l hn hc hsu r ih =>
    rintro ⟨b, hb, yes, no⟩
    obtain ⟨o, vs, ho, hz, hv⟩ := C.obj
    refine wpAny_handleBy_cons (codeAny_handlers_test ?_) (by intro q; cases q)
    have ty : PySem.W.Looks (model X.prog X.w) t.heap (typeOf (.ref e)) cl := fun A Q E s k q => wpAny_typeOf_ref (k _ _ ho) (by rw [hz.1]; exact q)
    have found : ∀ {Q E : Value → Shared → Prop}, Q c t → wpAny (model X.prog X.w) (X.A.mark (some (.ref e))) (eval (.Name x p1) X.env) Q E t := fun q => by
      have J := C.sui hs hf ho hv
      obtain ⟨g1, g2, g3 | ⟨g3, g4, g5⟩⟩ := hc
      · exact ld_glob (X := X.suite e ((e, o) :: (X.pn ++ pins))) J g1 g3 q g2
      · exact ld_blt (X := X.suite e ((e, o) :: (X.pn ++ pins))) J g1 g3 g4 q g5 g2
    refine found ((PySem.W.exm_one (M := model X.prog X.w) C.now.kIn ty hb).here ?_)
    cases b with
    | false => exact ih (no rfl)
    | true =>
      have wish := yes rfl e C.no
      cases hn with
      | none =>
        refine codeAny_handlers_suite (C.land fun u Cu => ?_)
        obtain ⟨o2, vs2, ho2, hz2, hv2⟩ := Cu.obj
        exact wpAny_mono ((hsu e o2 cl d (X.pn ++ pins) hz2 ⟨_, hv2⟩).run [] _ σ H D (Cu.sui hs hf ho2 hv2) (wish o2 (X.pn ++ pins))) (fun f u h => by cases f <;> exact sp_back ok h) fun _ _ z => z.elim
      | @some n i hN hi hl =>
        refine codeAny_handlers_suite_as (C.land fun u Cu => ?_)
        obtain ⟨o2, vs2, ho2, hz2, hv2⟩ := Cu.obj
        refine store_ok (X := X.suite e ((e, o2) :: (X.pn ++ pins))) (v := .ref e) (Cu.sui hs hf ho2 hv2) hN hi (.inl hl) rfl (fun y Y => ?_) (.inr hl)
        refine wpAny_mono ((hsu e o2 cl d (X.pn ++ pins) hz2 ⟨_, hv2⟩).run [] y _ H (endsN D i) Y (wish o2 (X.pn ++ pins))) (fun f u h => ?_) fun _ _ z => z.elim
        have h2 := sp_back ok h
        cases f with
        | ret z => obtain ⟨v, σ', H', J, r, q⟩ := h2; exact gone_ok J hN hi hl fun _ J2 => ⟨v, _, H', J2, r, q⟩
        | next => obtain ⟨σ', H', J, q⟩ := h2; exact gone_ok J hN hi hl fun _ J2 => ⟨_, H', J2, q⟩
        | brk => obtain ⟨σ', H', J, q⟩ := h2; exact gone_ok J hN hi hl fun _ J2 => ⟨_, H', J2, q⟩
        | cont => obtain ⟨σ', H', J, q⟩ := h2; exact gone_ok J hN hi hl fun _ J2 => ⟨_, H', J2, q⟩
def tTryM (K : PySem.W.Frag) (tb : TB) (l : TSL) (W : WX) : TS := fun D σ H => ∀ pn xe, tb (wMn K W D l) pn xe D σ H
theorem ps_tryM {body : List Stmt} {h0 : ExceptHandler} {hds : List ExceptHandler} {l : TSL} {pos : Pos} {tb : TB} {W : WX} (hs : X.stack = X.env :: X.outer) (hf : X.env.frame = some X.env.locals) (tk : Takes X W)
    (hb : ∀ (W : WX) (pn : List (Addr × Obj)) (xe : Value → Shared → Prop), Takes (X.tr pn xe) W → PassesOwn (model X.prog X.w) X.A X.env xe → PSs (X.tr pn xe) body (tb W pn xe)) (hh : HdM X (h0 :: hds) l) : PS X (.Try body (h0 :: hds) [] [] pos) (tTryM X.K tb l W) := by
  refine ⟨fun pins s σ H D I h => ?_⟩
  have ok := I.ok
  refine wpAny_Try_except (wpAny_mono ((hb (wMn X.K W D l) (X.pn ++ pins) (fun v s1 => wpAny (model X.prog X.w) X.A (noteFrame v X.env) (fun _ s2 => wpAny (model X.prog X.w) X.A (setFlight v none) (fun _ s3 => wpAny (model X.prog X.w) X.A (handleBy v X.env (h0 :: hds)) (SP X pins D) X.xe s3) X.xe s2) X.xe s1) (fun v s' z => ?_) PassesOwn.looking).run [] s σ H D (I.toTry _) (h _ _)) (fun f u z => ?_) fun _ _ z => z)
  · obtain ⟨e, B, t0, pn2, σ2, H2, cl, d, rfl, J, k1, k2, sky, na, k4, k5, w⟩ := z
    have sky2 : Sky B (X.env :: X.outer) e (Zc cl d) X.env.locals s'.heap := hs ▸ sky
    exact Sky.land Zc.steady (by rw [ok.frames, hs]) hf sky2 fun g f u => Cau.by hs hf tk ok hh (pins := pins) ⟨⟨B, t0, J.ofTry ok, k1, k2.trans u, f, k4, k5⟩, na⟩ w
  · cases f with
    | ret y => obtain ⟨v, σ', H', J, r, q⟩ := z; exact ⟨v, σ', H', J.ofTry ok, r, q⟩
    | next => obtain ⟨σ', H', J, q⟩ := z; exact wpAny_execs_nil ⟨σ', H', J.ofTry ok, q⟩
    | brk => obtain ⟨σ', H', J, q⟩ := z; exact ⟨σ', H', J.ofTry ok, q⟩
    | cont => obtain ⟨σ', H', J, q⟩ := z; exact ⟨σ', H', J.ofTry ok, q⟩
end
abbrev Hdl := (Nat → Option Bool) × Option Nat × (Nat → Option (List (Str × D)) → Sx)
def handM (k : Nat) : List Hdl → Nat → Option (List (Str × D)) → Sx
  | [], C, x => fun e S => .er C x e S
  | (tbl, o, gs) :: r, C, x => fun e S => match tbl C with
    | some true => (match o with
      | none => (gs C x e S).quiet
      | some i => (gs C x (e.set i (some (.x k))) S).post k i)
    | some false => handM k r C x e S
    | none => .no
def sTryM (k : Nat) (hs : List Hdl) (gb : Sx) : Sx := fun e S => match gb e S with
  | .er C x e1 S1 => handM k hs C x e1 S1
  | o => o
inductive ClS (c : EC) : List Hdl → TSL → Prop
  | nil : ClS c [] []
  | only {Cx : Nat} {tbl : Nat → Option Bool} {gs : Sx} {hs : List Hdl} {l : TSL} (hE : ∀ C b, tbl C = some b → PySem.W.exmOne c.K (exV c.cl C) (exV c.cl Cx) = some b) (r : ClS c hs l) : ClS c ((tbl, none, fun _ _ => gs) :: hs) ((exV c.cl Cx, none, fun _ _ _ _ _ => StT c wF gs) :: l)
  | named {Cx i : Nat} {tbl : Nat → Option Bool} {gs : Nat → Option (List (Str × D)) → Sx} {hs : List Hdl} {l : TSL} (hE : ∀ C b, tbl C = some b → (b = true → C < 1000) ∧ PySem.W.exmOne c.K (exV c.cl C) (exV c.cl Cx) = some b) (r : ClS c hs l) : ClS c ((tbl, some i, gs) :: hs) ((exV c.cl Cx, some i, tsu c gs) :: l)
section
variable {X : Cx} {c : EC} {W : WX} {K : PySem.W.Frag} {st : Stmt} {H : Hp} {π : List Addr} {S : Sto}
theorem hand_at {hs : List Hdl} {l : TSL} {en : Ends} (hl : ClS c hs l) {C : Nat} {x : Option (List (Str × D))} {dd : Option Addr} {σ : L2.St} {e : Env} (ev : EnvR c σ H e S π) (xr : C < 1000 → XR c.K H π dd x) : RunS c W H π (handM c.xs.length hs C x e S) en → wMn c.K W en l (exV c.cl C) dd σ H := by
  induction hl with
  | nil => exact fun q => q σ H π dd Ext.refl ev xr
  | @only Cx tbl gs hs l hE r ih =>
    intro q
    unfold handM at q
    dsimp only at q
    split at q
    · rename_i hb
      refine ⟨true, hE _ _ hb, fun _ a ha oe pn => ⟨e, S, π, ev, ?_⟩, fun z => by cases z⟩
      revert q
      cases gs e S with
      | nx e2 S2 => exact fun q => q
      | ct e2 S2 => exact fun q => q
      | bk e2 S2 => exact fun q => q
      | rt d S2 => exact fun q => q
      | er C y e2 S2 => exact fun q => q.elim
      | no => exact fun q => q.elim
    · rename_i hb
      exact ⟨false, hE _ _ hb, (fun z => by cases z), fun _ => ih q⟩
    · exact q.elim
  | @named Cx i tbl gs hs l hE r ih =>
    intro q
    unfold handM at q
    dsimp only at q
    split at q
    · rename_i hb
      have hC := (hE _ _ hb).1 rfl
      refine ⟨true, (hE _ _ hb).2, fun _ a ha oe pn => ⟨C, x, exV_lt hC, _, S, π, env_push ev (x := ⟨a, C, dd, x⟩) (xr hC), ?_⟩, fun z => by cases z⟩
      revert q
      cases gs C x (e.set i (some (.x c.xs.length))) S with
      | nx e2 S2 => exact fun q σ4 H4 π4 x4 ev4 => q _ H4 π4 x4 (env_pop ev4)
      | ct e2 S2 => exact fun q σ4 H4 π4 x4 ev4 => q _ H4 π4 x4 (env_pop ev4)
      | bk e2 S2 => exact fun q σ4 H4 π4 x4 ev4 => q _ H4 π4 x4 (env_pop ev4)
      | rt d S2 => exact fun q => q
      | er C y e2 S2 => exact fun q => q.elim
      | no => exact fun q => q.elim
    · rename_i hb
      exact ⟨false, (hE _ _ hb).2, (fun z => by cases z), fun _ => ih q⟩
    · exact q.elim
theorem s_tryM {gb : Sx} {hs : List Hdl} {l : TSL} (hl : ClS c hs l) (hK : K = c.K) (h : PS X st (tTryM K (fun W _ _ => StT c W gb) l W)) : PS X st (StT c W (sTryM c.xs.length hs gb)) := h.weak fun D σ H ⟨e, S, π, ev, q⟩ => by
  subst hK
  intro pn xe
  refine ⟨e, S, π, ev, ?_⟩
  unfold sTryM at q
  revert q
  cases gb e S with
  | er C x e1 S1 => exact fun q σ' H' π' dd x' ev' xr => hand_at hl ev' xr (RunS.ext q x')
  | nx e2 S2 => exact fun q => q
  | ct e2 S2 => exact fun q => q
  | bk e2 S2 => exact fun q => q
  | rt d S2 => exact fun q => q
  | no => exact fun q => q
end
end Pu
namespace Pu
open L2 PySem PySem.Spec PyProof.Rows Lb
def aDs : List (Str × Ex) → Ax
  | [] => aN
  | (_, f) :: r => aC f (aDs r)
def mergeD (kvs more : List (Key × D)) : List (Key × D) := more.foldl (fun a kv => putD a kv.1 kv.2) kvs
def eDisp (l : List (Str × Ex)) : Ex := fun e S => (aDs l e (S ++ [.dic []])).bind fun ds S2 => match S2[S.length]? with
  | some (.dic []) => .ok (.ref S.length) (S2.set S.length (.dic (mergeD [] ((l.map fun p => (.inr p.1 : Key)).zip ds))))
  | _ => .no
section
variable {X : Cx} {c : EC} {W : WX} {K : PySem.W.Frag} {ex : Expr} {H : Hp} {π : List Addr} {S : Sto}
def trD (c : EC) (W : WX) (l : List (Str × Ex)) : List (TE × TE) := l.map fun p => (tC (.str p.1), EvT c W p.2)
theorem pairs_at : ∀ {l : List (Str × Ex)} {σ : L2.St} {e : Env} {H : Hp} {π : List Addr} {S : Sto} {Q : List (V × V) → Hp → Prop}, EnvR c σ H e S π → Run c W (rVs c) σ H π (aDs l e S) (fun vs H' => Q ((l.map fun p => V.str p.1).zip vs) H') → tPairs (trD c W l) σ H Q
  | [], σ, e, H, π, S, Q, ev, q => run_ok (rel := rVs c) (v := []) ev.sr .nil q
  | (k, f) :: l, σ, e, H, π, S, Q, ev, q => by
    refine ⟨e, S, π, ev, (run_bind (rel := rV c) q).mono fun x H1 ⟨dx, S1, π1, e1, s1, rx, q1⟩ => ?_⟩
    exact pairs_at (l := l) (Q := fun ps H3 => Q ((V.str k, x) :: ps) H3) (ev.ext e1 s1) ((run_bind (rel := rVs c) q1).mono fun xs H2 ⟨ds, S2, π2, e2, s2, rs, q2⟩ => run_ok (rel := rVs c) s2 (.cons (rx.ext e2) rs) q2)
theorem zip_kv : ∀ (l : List (Str × Ex)) (vs : List V), (l.map fun p => V.str p.1).zip vs = (((l.map fun p => (.inr p.1 : Key)).zip vs).map fun kv => (kV kv.1, kv.2))
  | [], vs => rfl
  | p :: l, [] => rfl
  | p :: l, v :: vs => by
    have := zip_kv l vs
    simp only [List.map_cons, List.zip_cons_cons]
    rw [this]
    rfl
theorem pr_zip : ∀ {ks : List Key} {vs : List V} {ds : List D}, VRs K H π vs ds → PR K H π (ks.zip vs) (ks.zip ds)
  | [], _, _, _ => .nil
  | k :: ks, _, _, .nil => .nil
  | k :: ks, _, _, .cons h r => .cons h (pr_zip r)
theorem pr_merge {ws : List (Key × V)} {kvs : List (Key × D)} (h : PR K H π ws kvs) : ∀ {as : List (Key × V)} {bs : List (Key × D)}, PR K H π as bs → PR K H π (mergeK as ws) (mergeD bs kvs) := by
  induction h with
  | nil => exact fun r => r
  | cons h r ih => exact fun r => ih (pr_put r h)
theorem ev_disp {l : List (Str × Ex)} (h : PE X ex (tDisp (trD c W l))) (hl : l.length ≤ 15 := by decide) : PE X ex (EvT c W (eDisp l)) := h.weak fun σ H Q ⟨e, S, π, ev, q⟩ => by
  intro p hp
  have x := Ext.push (π := π) (o := .dK []) hp
  have ev1 := ev.ext x (ev.sr.push hp (ob := .dic []) ⟨[], upd_same, .nil⟩)
  refine pairs_at ev1 ((run_bind (rel := rVs c) (Run.ext q x)).mono fun vs H2 ⟨ds, S2, π2, e2, s2, rs, q2⟩ => ?_)
  split at q2
  · rename_i hS
    have hπ : (π ++ [p])[S.length]? = some p := by rw [← ev.sr.len]; simp
    have hπ2 := e2.get hπ
    obtain ⟨ws, hw, rw'⟩ := s2.at_ _ _ _ hπ2 hS
    cases rw'
    refine ⟨hw, (l.map fun p => (.inr p.1 : Key)).zip vs, zip_kv l vs, by rw [List.length_zip, List.length_map]; omega, ?_⟩
    have mu : Mut (H2 p) := by rw [hw]; exact True.intro
    have x3 : Ext H2 π2 (upd H2 p (.dK (mergeK [] ((l.map fun p => (.inr p.1 : Key)).zip vs)))) π2 := Ext.put (List.mem_of_getElem? hπ2) mu
    exact q2 _ _ π2 x3 (s2.put hπ2 mu ⟨_, upd_same, (pr_merge (pr_zip rs) .nil).ext x3⟩) (.ref hπ2)
  · exact q2.elim
end
end Pu
namespace Pu
open L2 PySem PySem.Spec PyProof.Rows Lb
section
variable {X : Cx} {c : EC} {W : WX} {K : PySem.W.Frag} {ex tg : Expr} {fa fo : Ex} {aa : Ax} {H : Hp} {π : List Addr} {S : Sto} {F : List D → Sto → Res D}
def dOwnI (C : Nat) (F : List D → Sto → Res D) (x y : D) (S : Sto) : Res D := match y with
  | .int i => if isIns C x S = true then (match F [x, .int i] S with | .ok d S' => .ok d S' | _ => .no) else .no
  | _ => .no
theorem os_ownI {C : Nat} {E : XK} : OpS c (rOwnI (c.cl C) (FnP c.K c.cl 2 F) E) (dOwnI C F) := by
  intro W σ H π S x y dx dy Q s rx ry q
  unfold dOwnI at q
  split at q
  · rename_i i
    split at q
    · rename_i h
      obtain ⟨a, d1, fs, rfl, h1⟩ := isIns_at s rx h
      rw [ry.intI]
      refine ⟨a, d1, fs, i, rfl, rfl, h1, fnP_quiet s (.cons rx (.cons (.int i) .nil)) rfl ?_⟩
      split at q
      · rename_i d S' e; exact ⟨d, S', e, q⟩
      · exact q.elim
    · exact q.elim
  · exact q.elim
end
end Pu
namespace Lb
open L2 PySem PySem.Spec PyProof.Rows
section
variable {X : Cx} {CX : CXT} {C f : Addr} {k i : Nat} {sp : Sp} {E : L2.St → XK} {x : Str} {p pos pos' : Pos} {a b e : Expr} {es : List Expr} {ta tb te : TE} {t : TA} {pins : List (Addr × Obj)} {σ : L2.St} {H : Hp} {s : Shared} {Q : VK}
theorem run_atX {us : List Value} {vs : List V} {A : Around} (F : FnR X.prog X.w X.K X.mg X.base CX k f sp) (hr : Room k A) (e0 : Env0 X.prog X.w X.K X.mg X.base A X.stack s H) (hx : PassesAt CX X σ (E σ)) (I : Inv X pins σ H s) (r : Vals vs us) (h : sp vs H Q (E σ)) :
    wpAny (model X.prog X.w) A (call (.ref f) us) (EP X pins σ Q) X.xe s := by
  refine wpAny_call (codeAny_mono (F A X.stack s H us vs Q (E σ) hr e0 r h) fun r s' hq => ?_)
  cases r with
  | error e => exact hx pins H s e s' I hq
  | ok fl =>
    cases fl with
    | ret u => exact I.after hq
    | next => exact False.elim hq
    | brk => exact False.elim hq
    | cont => exact False.elim hq
/-- o[i], o of the class at C -/
def tIxOwnX (C : Addr) (sp : Sp) (E : L2.St → XK) (ta tb : TE) : TE := fun σ H Q => ta σ H fun x H1 => tb σ H1 fun y H2 => ∃ a dx fs, x = .ref a ∧ H2 a = some (.ins C dx fs) ∧ sp [x, y] H2 Q (E σ)
theorem pe_ixOwnX (ha : PE X a ta) (hb : PE X b tb) (o : OwnDef X.K C "__getitem__" f) (hfi : PySem.W.fnIn X.K f = true) (F : FnR X.prog X.w X.K X.mg X.base CX k f sp) (hr : Room (k + 1) X.A) (hx : ∀ σ, PassesAt CX X σ (E σ))
    (hsl : ∀ o i, subscripted b true o i = runValue (.builtin "lifetime.subscript" ⟨[o, i], []⟩) := by intro _ _; with_unfolding_all rfl) : PE X (.Subscript a b pos) (tIxOwnX C sp E ta tb) := by
  refine ⟨fun pins s σ H Q I h => ?_⟩
  refine Subscript_ (binT ha hb I (R := fun x y H2 => ∃ a dx fs, x = .ref a ∧ H2 a = some (.ins C dx fs) ∧ sp [x, y] H2 Q (E σ)) h fun v u s2 x y H2 I2 rx ry q => ?_)
  obtain ⟨p, dx, fs, rfl, hp, q⟩ := q
  obtain rfl : v = Value.ref p := rx
  obtain ⟨ox, od, J⟩ := inst_at I2 hp
  obtain ⟨m, fr⟩ := I2.fr
  exact PySem.W.sub_K fr I2.ok.mod.kin J o.at_ hfi o.fn (run_atX (E := E) (vs := [.ref p, y]) (us := [.ref p, u]) F (Room.in1 hr) I2.env0.in1 (hx σ) I2 (.cons rfl (.cons ry .nil)) q) (hsl _ _)
/-- len(o) -/
def tLenOwnX (C : Addr) (sp : Sp) (E : L2.St → XK) (t : TA) : TE := fun σ H Q => t σ H fun vs H1 => ∃ a dx fs, vs = [.ref a] ∧ H1 a = some (.ins C dx fs) ∧ sp [.ref a] H1 (fun v H' => ∃ n : Int, v = .int n ∧ (0 ≤ n ∧ n < 2 ^ 63) ∧ Q (.int n) H') (E σ)
theorem pe_lenOwnX (ha : PA X (e :: es) t) (hg : Gl X "len") (hm : X.mg "len" = none) (o : OwnDef X.K C "__len__" f) (F : FnR X.prog X.w X.K X.mg X.base CX k f sp) (hr : Room (k + 1) X.A) (hx : ∀ σ, PassesAt CX X σ (E σ))
    (he : starEach (e :: es) X.env = (false, eval e X.env) :: starEach es X.env := by rfl) (hpl : (backTo pos (starEach es X.env)).any (·.1) = false := by rfl) : PE X (.Call (.Name "len" p) (e :: es) [] pos) (tLenOwnX C sp E t) := by
  refine ⟨fun pins s σ H Q I h => ?_⟩
  refine wpAny_Call_Name_kw (ld_blt I hg hm (show bootBuiltins "len" = some (.builtin "len") by decide +kernel) ?_ (by decide) (by decide))
  refine PyProof.Rows.callWith_builtin1 (thn (ha.run pos pins s σ H _ I h) fun us s1 ⟨vs, H1, I1, r1, q1⟩ => ?_) he hpl
  obtain ⟨a, dx, fs, rfl, hp, q⟩ := q1
  obtain ⟨u, rfl, ru⟩ := r1.one
  obtain rfl : u = Value.ref a := ru
  obtain ⟨ox, od, J⟩ := inst_at I1 hp
  obtain ⟨m, fr⟩ := I1.fr
  refine PySem.W.len_K fr I1.ok.mod.kin J o.at_ o.fn (wpAny_mono (run_atX (E := E) (vs := [.ref a]) (us := [.ref a]) F (Room.in1 hr) I1.env0.in1 (hx σ) I1 (.cons rfl .nil) q) (fun r s' z => ?_) fun _ _ z => z)
  obtain ⟨z, H', I', r', n, rfl, hn, q⟩ := z
  obtain ⟨t', rfl⟩ := (show ∃ t', r = Value.int n t' from r')
  exact ⟨hn, .int n, H', I'.tok _, ⟨_, rfl⟩, q⟩
/-- x in o -/
def tInOwnX (C : Addr) (sp : Sp) (E : L2.St → XK) (ta tb : TE) : TE := fun σ H Q => ta σ H fun x H1 => tb σ H1 fun y H2 => ∃ b dy gs, y = .ref b ∧ H2 b = some (.ins C dy gs) ∧ sp [y, x] H2 (fun v H' => ∃ c, v = .bl c ∧ Q (.bl c) H') (E σ)
theorem pc_inOwnX (ha : PE X a ta) (hb : PE X b tb) (o : OwnDef X.K C "__contains__" f) (F : FnR X.prog X.w X.K X.mg X.base CX k f sp) (hr : Room k X.A) (hx : ∀ σ, PassesAt CX X σ (E σ)) : PC X .In a b (tInOwnX C sp E ta tb) := by
  refine ⟨fun pins s σ H Q I h => ?_⟩
  refine binT ha hb I (R := fun x y H2 => ∃ b dy gs, y = .ref b ∧ H2 b = some (.ins C dy gs) ∧ sp [y, x] H2 (fun v H' => ∃ c, v = .bl c ∧ Q (.bl c) H') (E σ)) h fun v u s2 x y H2 I2 rx ry q => ?_
  obtain ⟨p, dx, fs, rfl, hp, q⟩ := q
  obtain rfl : u = Value.ref p := ry
  obtain ⟨ox, od, J⟩ := inst_at I2 hp
  obtain ⟨m, fr⟩ := I2.fr
  refine PySem.W.in_K fr I2.ok.mod.kin J o.at_ o.fn (wpAny_mono (run_fnX (vs := [.ref p, x]) (us := [.ref p, v]) F hr (hx σ) I2 (.cons rfl (.cons rx .nil)) q) (fun r s' z => ?_) fun _ _ z => z)
  obtain ⟨z, H', I', r', c, rfl, q⟩ := z
  cases r'
  exact wpAny_truthy_bool ⟨.bl c, H', I', rfl, q⟩
/-- o[i] = .. -/
def gSubOwnX (C : Addr) (sp : Sp) (E : L2.St → XK) (to ti : TE) : TG := fun v σ H Q => to σ H fun x H1 => ti σ H1 fun y H2 => ∃ a dx fs, x = .ref a ∧ H2 a = some (.ins C dx fs) ∧ sp [x, y, v] H2 (fun _ H3 => Q σ H3) (E σ)
theorem pg_subOwnX (ha : PE X a ta) (hb : PE X b tb) (o : OwnDef X.K C "__setitem__" f) (hq : PySem.W.noSeq X.K C = true) (F : FnR X.prog X.w X.K X.mg X.base CX k f sp) (hr : Room k X.A) (hx : ∀ σ, PassesAt CX X σ (E σ))
    (hs : ∀ v, assign (.Subscript a b pos) X.env v = (do
      let ov ← holding [v] (eval a X.env)
      let iv ← holding [v, ov] (eval b X.env)
      standAt pos
      holding [v, ov, iv] (setItem ov iv v)
      release [v, ov, iv] []) := by intro _; rfl) : PG X (.Subscript a b pos) (gSubOwnX C sp E ta tb) := by
  refine ⟨fun pins s σ H v u Q I r h => ?_⟩
  rw [hs]
  have core : ∀ (ov iv : Value) (s2 : Shared) (x y : V) (H2 : Hp), Inv X pins σ H2 s2 → RelV x ov → RelV y iv → (∃ a dx fs, x = .ref a ∧ H2 a = some (.ins C dx fs) ∧ sp [x, y, v] H2 (fun _ H3 => Q σ H3) (E σ)) →
      wpAny (model X.prog X.w) X.A (setItem ov iv u) (fun _ s' => ∃ H', Inv X pins σ H' s' ∧ Q σ H') X.xe s2 := by
    intro ov iv s2 x y H2 I2 rx ry ⟨p, dx, fs, ex, hp, q⟩
    subst ex
    obtain rfl : ov = Value.ref p := rx
    obtain ⟨ox, od, J⟩ := inst_at I2 hp
    obtain ⟨m, fr⟩ := I2.fr
    refine PySem.W.ksp_setItem fr I2.ok.mod.kin J hq o.at_ o.fn (wpAny_mono (run_fnX (vs := [.ref p, y, v]) (us := [.ref p, iv, u]) F hr (hx σ) I2 (.cons rfl (.cons ry (.cons r .nil))) q) (fun w s' z => ?_) fun _ _ z => z)
    obtain ⟨_, H', I', _, q⟩ := z
    exact ⟨H', I', q⟩
  refine wpAny_bind (wpAny_holding (thn (ha.run pins s σ H _ I h) fun ov s1 ⟨x, H1, I1, r1, q1⟩ => wpAny_bind (wpAny_holding (thn (hb.run pins s1 σ H1 _ I1 q1) fun iv s2 ⟨y, H2, I2, r2, q2⟩ => ?_))))
  exact wpAny_bind (wpAny_standAt (wpAny_bind (wpAny_holding (thn (core ov iv s2 x y H2 I2 r1 r2 q2) fun _ s3 ⟨H3, I3, q3⟩ => wpAny_release ⟨σ, H3, I3, q3⟩))))
end
def IntLit : List DictEntry → List (Int × Int) → Prop
  | [], [] => True
  | e :: r, (i, j) :: q => ((∃ t, e.key = .int i t) ∧ e.hash = hashInt i ∧ (∃ t, e.val = .int j t)) ∧ IntLit r q
  | _, _ => False
def lkI (i : Int) : List (Int × Int) → Option Int
  | [] => none
  | p :: r => if p.1 = i then some p.2 else lkI i r
theorem IntLit.keys : ∀ {es : List DictEntry} {kvs : List (Int × Int)}, IntLit es kvs → ∀ e ∈ es, ∃ i t, e.key = .int i t ∧ e.hash = hashInt i
  | _ :: _, (i, _) :: _, ⟨⟨⟨t, h1⟩, h2, _⟩, _⟩, _, .head _ => ⟨i, t, h1, h2⟩
  | _ :: _, _ :: _, ⟨_, r⟩, _, .tail _ m => IntLit.keys r _ m
theorem IntLit.find : ∀ {es : List DictEntry} {kvs : List (Int × Int)} {i j : Int}, IntLit es kvs → lkI i kvs = some j → ∃ t, (es.find? fun e => Value.isInt i e.key).map (·.val) = some (.int j t)
  | [], [], _, _, _, e => nomatch e
  | e :: r, (k, v) :: q, i, j, ⟨⟨⟨t, h1⟩, _, ⟨u, h3⟩⟩, hr⟩, h => by
    unfold lkI at h
    by_cases z : k = i
    · rw [if_pos z] at h
      cases h
      refine ⟨u, ?_⟩
      rw [List.find?_cons_of_pos (by rw [h1]; simp [Value.isInt, z])]
      simp [h3]
    · rw [if_neg z] at h
      obtain ⟨t', e'⟩ := IntLit.find hr h
      refine ⟨t', ?_⟩
      rw [List.find?_cons_of_neg (by rw [h1]; simp [Value.isInt]; first | exact z | exact fun w => z w.symm)]
      exact e'
def KDctI (K : PySem.W.Frag) (a : Addr) (kvs : List (Int × Int)) : Prop := ∃ es n, K.lookup a = some ⟨.type "dict", none, .dict es n, #[]⟩ ∧ IntLit es.toList kvs
def rIxKI (K : PySem.W.Frag) (kvs : List (Int × Int)) : R2 := fun x y H Q => ∃ a i j, x = .ref a ∧ y = .int i ∧ KDctI K a kvs ∧ lkI i kvs = some j ∧ Q (.int j) H
theorem ix_KI {X : Cx} {kvs : List (Int × Int)} : IxR X (rIxKI X.K kvs) := by
  intro value slice pins s σ H x y v u Q I rx ry h hs
  obtain ⟨p, i, j, rfl, rfl, ⟨es, n, hl, hk⟩, e, q⟩ := h
  obtain rfl : v = Value.ref p := rx
  obtain ⟨t, rfl⟩ := ry
  have hm : s.heap.MapOf (intKind X.prog X.w) p (fun k => findBy Value.isInt es k) :=
    ⟨_, es, n, I.kIn _ _ hl, ⟨rfl, rfl, rfl⟩, rfl, fun e he => by
      obtain ⟨x, t, e1, e2⟩ := hk.keys e (Array.mem_toList_iff.mpr he)
      exact ⟨x, by rw [e1]; exact intKind_is X.prog X.w x t, e2⟩, fun _ => rfl⟩
  obtain ⟨t', e'⟩ := hk.find e
  have hf : findBy Value.isInt es i = some (.int j t') := by
    obtain ⟨l⟩ := es
    unfold findBy
    rw [List.find?_toArray]
    exact e'
  exact tail_any hm.typeIs slot_dict_getitem.lookup (wpAny_getItem_of (intKind_is X.prog X.w i t) hm hf ⟨.int j, H, I.tok _, ⟨_, rfl⟩, q⟩) hs
end Lb
namespace Pu
open L2 PySem PySem.Spec PyProof.Rows Lb
theorem _root_.L2.PK.weak {X : Cx} {e : List Keyword} {t u : TA} (h : PK X e t) (k : ∀ σ H Q, u σ H Q → t σ H Q) : PK X e u := ⟨fun pos pins s σ H Q I q => h.run pos pins s σ H Q I (k σ H Q q)⟩
def eIxOwnX (C : Nat) (F : List D → Sto → Res D) (fa fb : Ex) : Ex := fun e S => (fa e S).bind fun o S1 => (fb e S1).bind fun i S2 => if isIns C o S2 = true then F [o, i] S2 else .no
def eLenOwnX (C : Nat) (F : List D → Sto → Res D) (aa : Ax) : Ex := fun e S => (aa e S).bind fun ds S1 => match ds with
  | [o] => if isIns C o S1 = true then (F [o] S1).bind fun r S2 => match r with
    | .int n => if 0 ≤ n ∧ n < 2 ^ 63 then .ok (.int n) S2 else .no
    | _ => .no else .no
  | _ => .no
def eInOwnX (C : Nat) (F : List D → Sto → Res D) (fa fb : Ex) : Ex := fun e S => (fa e S).bind fun d S1 => (fb e S1).bind fun o S2 => if isIns C o S2 = true then (F [o, d] S2).bind fun r S3 => match r with
  | .bl b => .ok (.bl b) S3
  | _ => .no else .no
def sSubOwnX (C : Nat) (F : List D → Sto → Res D) (fo fi fa : Ex) : Sx := fun e S => (fa e S).st e fun d S1 => (fo e S1).st e fun o S2 => (fi e S2).st e fun i S3 => if isIns C o S3 = true then (F [o, i, d] S3).st e fun _ S4 => .nx e S4 else .no
def tabI (kvs : List (Int × Int)) (d : D) (S : Sto) : Res D := match d with
  | .int i => (match lkI i kvs with | some j => .ok (.int j) S | none => .no)
  | _ => .no
def eLstRg (fa fb : Ex) : Ex := fun e S => (fa e S).bind fun x S1 => (fb e S1).bind fun y S2 => match x, y with
  | .int i, .int j => if (-(2 ^ 62) ≤ i ∧ i < 2 ^ 62 ∧ -(2 ^ 62) ≤ j ∧ j < 2 ^ 62) ∧ (j - i).toNat ≤ 100000 then .ok (.ref S2.length) (S2 ++ [.lst (rngD i (j - i).toNat)]) else .no
  | _, _ => .no
def eCallL (i p : Nat) (F : List D → Sto → Res D) (aa : Ax) : Ex := fun e S => match e[i]? with
  | some (some (.x 0)) => (aa e S).bind fun ds S1 => if ds.length = p then F ds S1 else .no
  | _ => .no
def eM1 (C : Nat) (m : Str) (F : List D → Sto → Res D) (o : Ex) : Ex := fun e S => (o e S).bind fun x S1 => if isObj C m x S1 = true then F [x] S1 else .no
def eMN (C : Nat) (m : Str) (n mk : Nat) (gD : List D → List D → List D) (F : List D → Sto → Res D) (o : Ex) (aa ak : Ax) : Ex := fun e S => (o e S).bind fun x S1 => if isObj C m x S1 = true then
  (aa e S1).bind fun ds S2 => (ak e S2).bind fun zs S3 => if ds.length + 1 = n ∧ zs.length = mk then F (gD (x :: ds) zs) S3 else .no else .no
def fnS1 (g : Sx) (ds : List D) (S : Sto) : Res D := match ds with
  | [d] => endS (g [some (.v d), some (.x 0)] S)
  | _ => .no
def FnP1 (K : PySem.W.Frag) (cl : Nat → Addr) (p : Nat) (a : Addr) (F : List D → Sto → Res D) : Sp := fun vs H Q E => ∃ us, vs = us ++ [.ref a] ∧ FnP K cl p F us H Q E
section
variable {K : PySem.W.Frag} {cl : Nat → Addr} {c : EC} {X : Cx} {W : WX} {ex : Expr} {exs : List Expr} {kws : List Keyword} {st : Stmt} {fa fb fo fi : Ex} {aa ak : Ax} {F : List D → Sto → Res D} {H : Hp} {π : List Addr} {S : Sto} {g : Sx}
theorem ak_nil (h : PK X kws tNil) : PK X kws (ArT c W aN) := h.weak fun σ H Q ⟨e, S, π, ev, q⟩ => run_ok (rel := rVs c) ev.sr .nil q
theorem ak_cons (h : PK X kws (tCons (EvT c W fa) (ArT c W aa))) : PK X kws (ArT c W (aC fa aa)) := h.weak fun σ H Q ⟨e, S, π, ev, q⟩ =>
  ⟨e, S, π, ev, (run_bind (rel := rV c) q).mono fun x H1 ⟨dx, S1, π1, e1, s1, rx, q1⟩ =>
    ⟨e, S1, π1, ev.ext e1 s1, (run_bind (rel := rVs c) q1).mono fun xs H2 ⟨ds, S2, π2, e2, s2, rs, q2⟩ => run_ok (rel := rVs c) s2 (.cons (rx.ext e2) rs) q2⟩⟩
theorem ev_ixOwnX {C : Nat} (h : PE X ex (tIxOwnX (c.cl C) (FnP c.K c.cl 2 F) (WE W) (EvT c W fa) (EvT c W fb))) : PE X ex (EvT c W (eIxOwnX C F fa fb)) := h.weak fun σ H Q ⟨e, S, π, ev, q⟩ =>
  ⟨e, S, π, ev, (run_bind (rel := rV c) q).mono fun x H1 ⟨o, S1, π1, e1, s1, rx, q1⟩ => ⟨e, S1, π1, ev.ext e1 s1, (run_bind (rel := rV c) q1).mono fun y H2 ⟨d, S2, π2, e2, s2, ry, q2⟩ => by
    split at q2
    · rename_i hi
      obtain ⟨a, dx, fs, rfl, h1⟩ := isIns_at s2 (rx.ext e2) hi
      exact ⟨a, dx, fs, rfl, h1, fnP_of s2 (.cons (rx.ext e2) (.cons ry .nil)) rfl q2⟩
    · exact q2.elim⟩⟩
theorem ev_lenOwnX {C : Nat} (h : PE X ex (tLenOwnX (c.cl C) (FnP c.K c.cl 1 F) (WE W) (ArT c W aa))) : PE X ex (EvT c W (eLenOwnX C F aa)) := h.weak fun σ H Q ⟨e, S, π, ev, q⟩ =>
  ⟨e, S, π, ev, (run_bind (rel := rVs c) q).mono fun vs H1 ⟨ds, S1, π1, e1, s1, rs, q1⟩ => by
    split at q1
    · obtain ⟨v, rfl, rv⟩ := vrs1 rs
      split at q1
      · rename_i hi
        obtain ⟨a, dx, fs, rfl, h1⟩ := isIns_at s1 rv hi
        refine ⟨a, dx, fs, rfl, h1, fnP_of s1 (.cons rv .nil) rfl ((run_bind (rel := rV c) q1).mono fun z H2 ⟨d, S2, π2, e2, s2, rz, q2⟩ => ?_)⟩
        split at q2
        · rename_i n
          split at q2
          · rename_i hn
            exact ⟨n, rz.intI, hn, q2 _ _ _ Ext.refl s2 (.int _)⟩
          · exact q2.elim
        · exact q2.elim
      · exact q1.elim
    · exact q1.elim⟩
theorem ev_inOwnX {C : Nat} (h : PE X ex (tInOwnX (c.cl C) (FnP c.K c.cl 2 F) (WE W) (EvT c W fa) (EvT c W fb))) : PE X ex (EvT c W (eInOwnX C F fa fb)) := h.weak fun σ H Q ⟨e, S, π, ev, q⟩ =>
  ⟨e, S, π, ev, (run_bind (rel := rV c) q).mono fun x H1 ⟨d, S1, π1, e1, s1, rx, q1⟩ => ⟨e, S1, π1, ev.ext e1 s1, (run_bind (rel := rV c) q1).mono fun y H2 ⟨o, S2, π2, e2, s2, ry, q2⟩ => by
    split at q2
    · rename_i hi
      obtain ⟨a, dx, fs, rfl, h1⟩ := isIns_at s2 ry hi
      refine ⟨a, dx, fs, rfl, h1, fnP_of s2 (.cons ry (.cons (rx.ext e2) .nil)) rfl ((run_bind (rel := rV c) q2).mono fun z H3 ⟨r, S3, π3, e3, s3, rz, q3⟩ => ?_)⟩
      split at q3
      · rename_i b; exact ⟨b, rz.blI, q3 _ _ _ Ext.refl s3 (.bl _)⟩
      · exact q3.elim
    · exact q2.elim⟩⟩
theorem s_subOwnX {C : Nat} (h : PS X st (tAsg (EvT c W fa) (gSubOwnX (c.cl C) (FnP c.K c.cl 3 F) (WE W) (EvT c W fo) (EvT c W fi)))) : PS X st (StT c W (sSubOwnX C F fo fi fa)) := h.weak fun D σ H ⟨e, S, π, ev, q⟩ =>
  ⟨e, S, π, ev, (run_st (rel := rV c) ev q).mono fun v H1 ⟨d, S1, π1, e1, s1, rv, q1⟩ => ⟨e, S1, π1, ev.ext e1 s1, (run_st (rel := rV c) (ev.ext e1 s1) q1).mono fun x H2 ⟨o, S2, π2, e2, s2, rx, q2⟩ =>
    ⟨e, S2, π2, (ev.ext e1 s1).ext e2 s2, (run_st (rel := rV c) ((ev.ext e1 s1).ext e2 s2) q2).mono fun y H3 ⟨i, S3, π3, e3, s3, ry, q3⟩ => by
      split at q3
      · rename_i hi
        obtain ⟨a, dx, fs, rfl, h1⟩ := isIns_at s3 (rx.ext e3) hi
        have ev3 := ((ev.ext e1 s1).ext e2 s2).ext e3 s3
        refine ⟨a, dx, fs, rfl, h1, fnP_of s3 (.cons (rx.ext e3) (.cons ry (.cons (rv.ext (e2.trans e3)) .nil))) rfl ((run_st (rel := rV c) ev3 q3).mono fun z H4 ⟨r, S4, π4, e4, s4, rz, q4⟩ => ?_)⟩
        exact q4 σ H4 π4 Ext.refl (ev3.ext e4 s4)
      · exact q3.elim⟩⟩⟩
theorem ev_tabI {kvs : List (Int × Int)} {a : Addr} (h : PE X ex (tOp (rIxKI K kvs) (tC (.ref a)) (EvT c W fb))) (hk : KDctI K a kvs) : PE X ex (EvT c W (eU (tabI kvs) fb)) := h.weak fun σ H Q ⟨e, S, π, ev, q⟩ =>
  ⟨e, S, π, ev, (run_bind (rel := rV c) q).mono fun x H1 ⟨d, S1, π1, e1, s1, rx, q1⟩ => by
    unfold tabI at q1
    split at q1
    · rename_i i
      split at q1
      · rename_i j hj
        exact ⟨a, i, j, rfl, rx.intI, hk, hj, q1 _ _ _ Ext.refl s1 (.int _)⟩
      · exact q1.elim
    · exact q1.elim⟩
theorem vrs_rg {H : Hp} {π : List Addr} {i j : Int} : VRs K H π (rgV i j) (rngD i (j - i).toNat) := by
  unfold rgV rngD
  generalize (j - i).toNat = n
  induction n with
  | zero => exact .nil
  | succ n ih =>
    rw [List.range_succ, List.map_append, List.map_append]
    exact ih.append (.cons (.int _) .nil)
theorem ev_lstRg (h : PE X ex (tLstRg (tRg2 (EvT c W fa) (EvT c W fb)))) : PE X ex (EvT c W (eLstRg fa fb)) := h.weak fun σ H Q ⟨e, S, π, ev, q⟩ =>
  ⟨e, S, π, ev, (run_bind (rel := rV c) q).mono fun x H1 ⟨dx, S1, π1, e1, s1, rx, q1⟩ => ⟨e, S1, π1, ev.ext e1 s1, (run_bind (rel := rV c) q1).mono fun y H2 ⟨dy, S2, π2, e2, s2, ry, q2⟩ => by
    cases dx with
    | int i =>
      cases dy with
      | int j =>
        dsimp only at q2
        split at q2
        · rename_i hb
          exact ⟨i, j, (rx.ext e2).intI, ry.intI, ⟨hb.1.1, hb.1.2.1, hb.1.2.2.1, hb.1.2.2.2, by omega⟩, fun p hp => mk_lst s2 vrs_rg hp q2⟩
        · exact q2.elim
      | _ => exact q2.elim
    | _ => exact q2.elim⟩⟩
theorem ev_mN {C n mk p : Nat} {m : Str} {gV : List V → List V → List V} {gD : List D → List D → List D} (h : PE X ex (tMethN (c.cl C) m n mk (FnP c.K c.cl p F) gV (WE W) (EvT c W fo) (ArT c W aa) (ArT c W ak)))
    (hg : ∀ {H : Hp} {π : List Addr} {vs zs : List V} {ds es : List D}, VRs c.K H π vs ds → VRs c.K H π zs es → VRs c.K H π (gV vs zs) (gD ds es)) (hl : ∀ ds es : List D, ds.length = n → es.length = mk → (gD ds es).length = p) :
    PE X ex (EvT c W (eMN C m n mk gD F fo aa ak)) := h.weak fun σ H Q ⟨e, S, π, ev, q⟩ =>
  ⟨e, S, π, ev, (run_bind (rel := rV c) q).mono fun x H1 ⟨o, S1, π1, e1, s1, rx, q1⟩ => by
    split at q1
    · rename_i ho
      obtain ⟨a, dx, fs, rfl, h1, h2⟩ := isObj_at s1 rx ho
      refine ⟨a, dx, fs, rfl, h1, h2, e, S1, π1, ev.ext e1 s1, (run_bind (rel := rVs c) q1).mono fun vs H2 ⟨ds, S2, π2, e2, s2, rs, q2⟩ => ?_⟩
      refine ⟨e, S2, π2, (ev.ext e1 s1).ext e2 s2, (run_bind (rel := rVs c) q2).mono fun zs H3 ⟨es, S3, π3, e3, s3, rz, q3⟩ => ?_⟩
      split at q3
      · rename_i hh
        have r := hg (.cons (rx.ext (e2.trans e3)) (rs.ext e3)) rz
        exact ⟨⟨by rw [rs.len]; exact hh.1, by rw [rz.len]; exact hh.2⟩, fnP_of s3 r (by rw [r.len]; exact hl _ _ hh.1 hh.2) q3⟩
      · exact q3.elim
    · exact q1.elim⟩
theorem fn_len1 {p : Nat} {a : Addr} : ∀ vs H Q E, FnP1 K cl p a F vs H Q E → vs.length = p + 1 := fun _ _ _ _ ⟨us, e, h⟩ => by rw [e, List.length_append, h.1]; rfl
theorem fn_body1 {N : List Str} {vs : List V} {Q : VK} {E : XK} {a : Addr} (hn : N.length = 2) (h : FnP1 K cl 1 a (fnS1 g) vs H Q E) :
    StT ⟨K, cl, [⟨a, 0, none, none⟩]⟩ (wE E) g { nx := fun _ H' => Q .non H', rt := Q } (L2.start N vs) H := by
  obtain ⟨us, rfl, hl, ds, S, π, s, r, q⟩ := h
  cases r with
  | nil => cases hl
  | @cons v vs d ds h0 r =>
    cases r with
    | cons _ _ => cases hl
    | nil =>
      have st : L2.start N ([v] ++ [.ref a]) = [some v, some (.ref a)] := by
        unfold L2.start
        rw [hn]
        rfl
      rw [st]
      refine ⟨[some (.v d), some (.x 0)], S, π, ⟨s, rfl, fun i u hu => ?_, fun k x hx => ?_⟩, ?_⟩
      · match i, hu with
        | 0, hu => cases hu; exact ⟨v, rfl, h0⟩
        | 1, hu => cases hu; exact ⟨.ref a, rfl, _, rfl, rfl⟩
      · match k, hx with
        | 0, hx => cases hx; exact rfl
      · unfold fnS1 endS at q
        dsimp only at q
        revert q
        cases g [some (.v d), some (.x 0)] S with
        | nx e S' => exact fun q σ' H' π' x ev => q .non H' π' x ev.sr .non
        | rt d S' => exact fun q v H' π' x s r => q v H' π' x s r
        | er C x e S' => exact fun q σ' H' π' dd y ev xr => q H' π' dd y ev.sr xr
        | bk e S' => exact fun q => q.elim
        | ct e S' => exact fun q => q.elim
        | no => exact fun q => q.elim
end
end Pu
namespace PySem
open Sem (wp)
open AutoSeq1 (wpAny_loadPart')
theorem enumT_new (t : Addr) (items : Array Value) (n : Nat) (dct : Option Addr) (sl : Array (Option Value)) :
    Meets (Builtin.«enumerate.__new__» ⟨[.type "enumerate", .ref t], []⟩) (fun _ R s => s.heap.get? t = some ⟨.type "tuple", dct, .seq items n, sl⟩ ∧
      R (.ok (.ret (.ref (s.heap.objs.size + 1)))) { s with heap := (s.heap.push ⟨.type "tuple_iterator", none, .fields #[.ref t, .int 0 0], #[]⟩).push ⟨.type "enumerate", none, .fields #[.none, .bool false, .ref s.heap.objs.size, rawInt 0, .none, .none], #[]⟩ }) := by
  refine .of_wp fun prog w A R s hh => ?_
  obtain ⟨g1, g2⟩ := hh
  obtain ⟨hp, gg, dd, tk, os⟩ := s
  have tt : Heap.IsTuple (Shared.heap ⟨hp, gg, dd, tk, os⟩) t items := ⟨_, g1, rfl, n, rfl⟩
  have su := sub_enumerate
  have zz : (hp.push ⟨.type "tuple_iterator", none, .fields #[.ref t, .int 0 0], #[]⟩).objs.size = hp.objs.size + 1 := Heap.size_push ..
  dsimp only at g2
  rw [← zz] at g2
  wp_walk using wpAny_loadPart' g1
  refine wpAny_stack_any fun st => wpAny_pure ?_
  split
  · rename_i c _ _ _ _ _
    rcases Bool.eq_false_or_eq_true (c == Value.type "enumerate") with z | z <;> rw [z] <;> (wp_walk using wpAny_loadPart' g1, wpAny_pyIter_tuple tt; exact ⟨_, rfl, g2⟩)
  · wp_walk using wpAny_loadPart' g1, wpAny_pyIter_tuple tt
    exact ⟨_, rfl, g2⟩
end PySem
namespace Lb
open L2 PySem PySem.Spec PyProof.Rows
section
variable {prog : Program} {w : World} {A : Around} {E : Value → Shared → Prop} {s : Shared}
theorem call_enumT {t : Addr} {items : Array Value} {Q : Value → Shared → Prop} (hT : s.heap.IsTuple t items)
    (h : ∀ h', IsEnum h' (s.heap.objs.size + 1) s.heap.objs.size 0 .none → h'.IsTupleIter s.heap.objs.size t 0 → (∀ b o, s.heap.get? b = some o → h'.get? b = some o) → Q (.ref (s.heap.objs.size + 1)) { s with heap := h' }) :
    wpAny (model prog w) A (call (.type "enumerate") [.ref t]) Q E s := by
  obtain ⟨⟨c, dct, dt, sl⟩, hl, hc, n, hd⟩ := hT
  replace hc : c = .type "tuple" := hc
  replace hd : dt = .seq items n := hd
  subst hc hd
  have zz : (s.heap.push (⟨.type "tuple_iterator", none, .fields #[.ref t, .int 0 0], #[]⟩ : Obj)).objs.size = s.heap.objs.size + 1 := Heap.size_push ..
  have k : ((s.heap.push (⟨.type "tuple_iterator", none, .fields #[.ref t, .int 0 0], #[]⟩ : Obj)).push ⟨.type "enumerate", none, .fields #[.none, .bool false, .ref s.heap.objs.size, rawInt 0, .none, .none], #[]⟩).get? (s.heap.objs.size + 1) =
      some ⟨.type "enumerate", none, .fields #[.none, .bool false, .ref s.heap.objs.size, rawInt 0, .none, .none], #[]⟩ := by
    rw [← zz]; exact Heap.get?_push_size _ rfl
  refine callType_new F.called_enumerate (by decide) (F.typeCall_enumerate_1 _) (F.newCall_enumerate_1 _) (fun obj => F.args_object_init_2 obj _) F.entry_enumerate_new (enumT_new t items n dct sl) ⟨hl, ⟨⟨_, k, rfl⟩, ?_⟩⟩
  exact h _ k ⟨_, Heap.get?_push_of_some _ (Heap.get?_push_size _ rfl), rfl, rfl⟩ fun b o x => Heap.get?_push_of_some _ (Heap.get?_push_of_some _ x)
end
section
variable {X : Cx} {nm : Str} {C : Addr} {W : WX} {p pos pos' : Pos}
theorem ps_raiseY0 (T : YTxt X.K X.mg nm C) (hc : X.calm = true) (tk : Takes X W) (hg : Gl X nm) (hdb : (nm == ("__debug__" : Str)) = false := by decide) : PS X (.Raise (some (.Call (.Name nm p) [] [] pos)) none pos') (tRaiseY C W) := by
  have he : PMk X (.Call (.Name nm p) [] [] pos) (fun _ H Q => Q (.ref C) none H) := by
    intro pins s σ H Q I h
    refine wpAny_Call_Name_kw (ld_glob I hg T.g (PySem.W.callWith_K0 I.kIn T.kC ?_) hdb)
    obtain ⟨bm, N, nm, qn, bs, hdct, sn, sub, ab, col, dd, k0, k1, k2, k3, k5, mN, hC, hN, hni, TT⟩ := exc_obj I.kIn T.q
    exact wpAny_call_exc_subT PySem.F.excBase_ValueError TT hC hN hni (fun h' e hm => mk_of I hm (raises_own T.ec.hs T.tyC) h (I.hok.gone hm.new)) (Nat.zero_le _)
  exact ps_raise hc tk he
end
/-- enumerate over the tuple at a -/
def IteT (K : PySem.W.Frag) (a : Addr) : It :=
  ⟨fun i H => ∃ (xs : List V) (x : V), SqT K H a xs ∧ xs[i]? = some x, fun i H v H' => ∃ T x, v = .ref T ∧ H T = none ∧ H' = upd H T (.tup [.int (i : Nat), x]) ∧ ∀ xs, SqT K H a xs → xs[i]? = some x, fun i H => ∃ xs : List V, SqT K H a xs ∧ xs.length ≤ i⟩
theorem turn_enumT {P : Program} {w : World} {K : PySem.W.Frag} {elts : List Expr} {kk : Nat} {tpos : Pos} (a e it : Addr) :
    Turn P w K (.Tuple elts kk tpos) (IteT K a) [e, it] e (fun i h => (∃ old, IsEnum h e it ((i : Nat) : Int) old) ∧ h.IsTupleIter it a i ∧ e ≠ it) where
  mem := by simp
  obj := fun i h st b hb => by
    obtain ⟨⟨old, he⟩, ⟨o, ho, hc, hd⟩, _⟩ := st
    rcases List.mem_cons.mp hb with z | z
    · subst z; exact ⟨_, he, fun v q => nomatch q⟩
    · rw [List.mem_singleton.mp z]; exact ⟨o, ho, fun v q => by rw [hd] at q; cases q⟩
  keep := fun i h h' ⟨⟨old, he⟩, hi, hne⟩ k => ⟨⟨old, k e (by simp) _ he⟩, hi.at fun o q => k it (by simp) o q, hne⟩
  item := by
    intro X hP hw hK hc i pins s σ H E I hf st hg
    subst hP hw hK
    obtain ⟨⟨old, he⟩, hit, hne⟩ := st
    obtain ⟨xs, x, hq, hx⟩ := hg
    obtain ⟨its, rv, p, hz⟩ := I.tuple hq
    obtain ⟨u, hu, ru⟩ := rv.get hx
    have tp : s.heap.IsTuple a its.toArray := p
    have hel : e < s.heap.objs.size := Heap.lt_size he
    have n1 : a ≠ it := by
      rintro rfl
      obtain ⟨o1, g1, c1, _⟩ := tp
      obtain ⟨o2, g2, c2, _⟩ := hit
      rw [g1] at g2; cases g2; exact absurd (Value.type.inj (c1.symm.trans c2)) (by decide)
    have n2 : a ≠ e := by
      rintro rfl
      obtain ⟨o1, g1, c1, _⟩ := tp
      rw [he] at g1; cases g1; exact absurd (Value.type.inj c1) (by decide)
    have D := PySem.Draws.tuple (prog := X.prog) (w := X.w) (A := X.A.in1) (I.ok.hd hc) it a n1 its.toArray
    have hlt : i < its.toArray.size := by rw [List.size_toArray]; exact (List.getElem?_eq_some_iff.mp hu).1
    refine wpAny_pyNext_enum_itemD D he ⟨hit, tp⟩ hlt hne (by simp [hne, Ne.symm n2]) fun v h' tk hv ho st' hT hsz hk => ?_
    have ev : v = u := by
      have := hv
      rw [List.getElem?_toArray, hu] at this
      exact (Option.some.inj this).symm
    subst ev
    refine ⟨_, rfl, wpAny_letOwnedTupleGo_enum (s := { s with heap := h', toks := tk + 1 }) ho fun h'' he' sb => ?_⟩
    have hT2 : h''.get? s.heap.objs.size = some { cls := .type "tuple", data := .seq #[.int i tk, v] } := (sb.2 _ (Nat.ne_of_gt hel)).trans hT
    have new : ObjOk X.prog X.w (upd H s.heap.objs.size (.tup [.int (i : Nat), x])) h'' s.heap.objs.size (.tup [.int (i : Nat), x]) :=
      ⟨by show 2 ≤ sizeLine; decide, [.int i tk, v], .cons ⟨_, rfl⟩ (.cons ru .nil), ⟨_, hT2, rfl, _, rfl⟩⟩
    have I1 : Inv X pins σ (upd H s.heap.objs.size (.tup [.int (i : Nat), x])) { s with heap := h'', toks := tk + 1 } :=
      I.turnedNew (ch := [e, it]) (fun b ob hb q => (sb.2 b (fun z => hb (by simp [z]))).trans (hk b ob (fun z => hb (by simp [z])) (fun z => hb (by simp [z])) q)) hf (Nat.le_refl _) new
    have e1 : ((i + 1 : Nat) : Int) = (i : Int) + 1 := by omega
    refine ⟨.ref s.heap.objs.size, _, I1, rfl, ⟨_, x, rfl, I.hok.fresh (Nat.le_refl _), rfl, fun ys hy => by rw [I.tuple_inj hy hq]; exact hx⟩, ⟨⟨v, by rw [e1]; exact he'⟩, st'.1.at fun o q => (sb.2 it (Ne.symm hne)).trans q, hne⟩, fun b hb => ?_⟩
    have hb' : b < s.heap.objs.size := by
      rcases List.mem_cons.mp hb with z | z
      · rw [z]; exact hel
      · rw [List.mem_singleton.mp z]; obtain ⟨_, q, _⟩ := hit; exact Heap.lt_size q
    rw [upd_ne (Nat.ne_of_lt hb')]
    exact (hf b hb).1
  done := by
    intro X hP hw hK hc i pins s σ H E I hf st hg
    subst hP hw hK
    obtain ⟨⟨old, he⟩, hit, hne⟩ := st
    obtain ⟨xs, hq, hx⟩ := hg
    obtain ⟨its, rv, p, hz⟩ := I.tuple hq
    obtain ⟨f0, f1, f2, f3, f4, f5⟩ := hf it (by simp)
    have hl := rv.length
    have tp : s.heap.IsTuple a its.toArray := p
    have n1 : a ≠ it := by
      rintro rfl
      obtain ⟨o1, g1, c1, _⟩ := tp
      obtain ⟨o2, g2, c2, _⟩ := hit
      rw [g1] at g2; cases g2; exact absurd (Value.type.inj (c1.symm.trans c2)) (by decide)
    have D : PySem.Draws X.prog X.w X.A.in1 it [it, a] i (fun _ _ => True) (fun j h => j = i ∧ h.IsTupleIter it a i ∧ h.IsTuple a its.toArray) :=
      { live := fun _ _ st => let ⟨o, ho, _⟩ := st.2.1; ⟨o, ho⟩
        frame := fun _ _ _ st hk => ⟨st.1, st.2.1.at fun o e => hk it (by simp) o e, st.2.2.at fun o e => hk a (by simp) o e⟩
        item := fun j s Q E hj st _ => absurd hj (by rw [st.1]; exact Nat.lt_irrefl _)
        done := fun s Q E st hE => wpAny_nextOf_tuple_end (I.ok.hd hc) st.2.1 st.2.2 (by rw [List.getElem?_toArray, List.getElem?_eq_none_iff]; omega) hE }
    refine wpAny_pyNext_enum_endD D he ⟨rfl, hit, tp⟩ fun h' eb => ⟨rfl, I.turned (t' := s.toks) (fun b o hb q => eb b o hb q) f0 f1 f3 f4 f5⟩
  self := fun A i s Q E st h => let ⟨⟨_, he⟩, _⟩ := st; wpAny_pyIter_enum he h
def iEnumA (K : PySem.W.Frag) (ta : TA) : TI := fun σ H R => ta σ H fun vs H1 => ∃ a xs, vs = [.ref a] ∧ ((SqL K H1 a xs ∧ R (Ite K a) H1) ∨ (SqT K H1 a xs ∧ R (IteT K a) H1))
theorem pi_enumA {X : Cx} {e : Expr} {ta : TA} {p pos tpos : Pos} {elts : List Expr} {kk : Nat} (hg : Gl X "enumerate") (hm : X.mg "enumerate" = none) (ha : PA X [e] ta) (hs : starEach [e] X.env = [(false, eval e X.env)] := by rfl) :
    PI X (.Tuple elts kk tpos) (.Call (.Name "enumerate" p) [e] [] pos) (iEnumA X.K ta) := by
  refine ⟨fun pins s σ H R I h => ?_⟩
  refine Call_ (ld_blt I hg hm boot_enumerate (PyProof.Rows.callWith_type1 (thn (ha.run pos pins s σ H _ I h) fun us s1 ⟨vs, H1, I1, r1, a, xs, ex, q1⟩ => ?_) hs rfl))
  subst ex
  obtain ⟨u, rfl, ru⟩ := r1.one
  obtain rfl : u = Value.ref a := ru
  have fpk : ∀ b ∈ [s1.heap.objs.size + 1, s1.heap.objs.size], FpOk X pins H1 b := fun b hb => by
    have hle : s1.heap.objs.size ≤ b := by
      rcases List.mem_cons.mp hb with z | z
      · rw [z]; exact Nat.le_add_right _ _
      · rw [List.mem_singleton.mp z]; exact Nat.le_refl _
    exact I1.fpOk hle (I1.hok.fresh hle)
  rcases q1 with ⟨hq, q⟩ | ⟨hq, q⟩
  · obtain ⟨its, rv, p', hz⟩ := I1.list hq
    exact call_enumerate_list p'.isList fun h' he hit _ hk => wpAny_pyIter_enum he ⟨_, [s1.heap.objs.size + 1, s1.heap.objs.size], _, _, H1, rfl, I1.kept (t' := s1.toks) hk, turn_enum a (s1.heap.objs.size + 1) s1.heap.objs.size, ⟨⟨.none, he⟩, hit, Nat.succ_ne_self _⟩, fpk, q⟩
  · obtain ⟨its, rv, p', hz⟩ := I1.tuple hq
    exact call_enumT (show s1.heap.IsTuple a its.toArray from p') fun h' he hit hk => wpAny_pyIter_enum he ⟨_, [s1.heap.objs.size + 1, s1.heap.objs.size], _, _, H1, rfl, I1.kept (t' := s1.toks) hk, turn_enumT a (s1.heap.objs.size + 1) s1.heap.objs.size, ⟨⟨.none, he⟩, hit, Nat.succ_ne_self _⟩, fpk, q⟩
end Lb
namespace Pu
open L2 PySem PySem.Spec PyProof.Rows Lb
def enumF (n : Nat) : List D → List D
  | [] => []
  | x :: r => .tup [.int (n : Nat), x] :: enumF (n + 1) r
theorem enumF_get : ∀ {ds : List D} {n i : Nat} {d : D}, (enumF n ds)[i]? = some d → ∃ x, ds[i]? = some x ∧ d = .tup [.int ((n + i : Nat) : Int), x]
  | [], _, _, _, e => by cases e
  | x :: r, n, 0, _, e => by cases e; exact ⟨x, rfl, rfl⟩
  | x :: r, n, i + 1, d, e => by
    obtain ⟨y, h1, h2⟩ := enumF_get (ds := r) (n := n + 1) (i := i) e
    exact ⟨y, h1, by rw [h2, show n + 1 + i = n + (i + 1) by omega]⟩
theorem enumF_len : ∀ {ds : List D} {n : Nat}, (enumF n ds).length = ds.length
  | [], _ => rfl
  | x :: r, n => by unfold enumF; rw [List.length_cons, List.length_cons, enumF_len]
def itEnum (a : Ax) : Ix := fun e S => (a e S).bind fun vs S1 => match vs with
  | [.ref l] => (match S1[l]? with | some (.lst ds) => .ok (some (l, .lst ds), enumF 0 ds) S1 | _ => .no)
  | [d] => (match d.seq S1 with | some ds => .ok (none, enumF 0 ds) S1 | none => .no)
  | _ => .no
section
variable {K : PySem.W.Frag} {c : EC} {X : Cx} {W : WX} {ex tg : Expr} {aa : Ax} {H : Hp} {π : List Addr} {S : Sto}
theorem enum_turn {T : Addr} {i : Nat} {v : V} {d : D} (s : SR c.K c.cl H π S) (hT : H T = none) (r : VR c.K H π v d) :
    Ext H π (upd H T (.tup [.int (i : Nat), v])) π ∧ SR c.K c.cl (upd H T (.tup [.int (i : Nat), v])) π S ∧ VR c.K (upd H T (.tup [.int (i : Nat), v])) π (.ref T) (.tup [.int ((0 + i : Nat) : Int), d]) :=
  ⟨Ext.new hT, s.new hT, .tup upd_same (.cons (by rw [Nat.zero_add]; exact .int _) (.cons (r.ext (Ext.new hT)) .nil))⟩
theorem it_enum (h : PI X tg ex (iEnumA K (ArT c W aa))) (hK : K = c.K) : PI X tg ex (IterT c W (itEnum aa)) := h.weak fun σ H R ⟨e, S, π, ev, q⟩ =>
  ⟨e, S, π, ev, (run_bind (rel := rVs c) q).mono fun x H1 ⟨vs, S1, π1, e1, s1, rx, q1⟩ => by
    subst hK
    split at q1
    · obtain ⟨v, rfl, rv⟩ := vrs1 rx
      obtain ⟨a, rfl, hl⟩ := rv.refI
      split at q1
      · rename_i ds hS
        obtain ⟨xs0, h1, h2⟩ := s1.at_ _ _ _ hl hS
        refine ⟨a, xs0, rfl, .inl ⟨SqL.of h1, q1 _ _ _ Ext.refl s1 fun i H π S x s hk => ?_⟩⟩
        obtain ⟨xs, h1', h2'⟩ := s.at_ _ _ _ (x.get hl) hk
        refine ⟨fun d hd => ?_, fun hi => ⟨xs, SqL.of h1', by rw [h2'.len]; rw [enumF_len] at hi; exact hi⟩⟩
        obtain ⟨y, hy, rfl⟩ := enumF_get hd
        obtain ⟨u, h3, h4⟩ := h2'.get hy
        refine ⟨⟨xs, u, SqL.of h1', h3⟩, fun z H' hz => ?_⟩
        obtain ⟨T, u', rfl, hT, rfl, hy'⟩ := hz
        have := hy' xs (SqL.of h1')
        rw [h3] at this
        cases this
        exact enum_turn s hT h4
      · exact q1.elim
    · rename_i n2
      obtain ⟨v, rfl, rv⟩ := vrs1 rx
      split at q1
      · rename_i ds hd
        have tupc : ∀ {a : Addr} {xs : List V}, SqT c.K H1 a xs → VRs c.K H1 π1 xs ds → ItOk c (IteT c.K a) H1 π1 (none, enumF 0 ds) := by
          intro a xs h1 h2 i H π S x s hk
          have h1' := x.i.sqT h1
          have h2' := h2.ext x
          refine ⟨fun d hd => ?_, fun hi => ⟨xs, h1', by rw [h2'.len]; rw [enumF_len] at hi; exact hi⟩⟩
          obtain ⟨y, hy, rfl⟩ := enumF_get hd
          obtain ⟨u, h3, h4⟩ := h2'.get hy
          refine ⟨⟨xs, u, h1', h3⟩, fun z H' hz => ?_⟩
          obtain ⟨T, u', rfl, hT, rfl, hy'⟩ := hz
          have := hy' xs h1'
          rw [h3] at this
          cases this
          exact enum_turn s hT h4
        cases rv with
        | tup h r => cases hd; exact ⟨_, _, rfl, .inr ⟨SqT.of h, q1 _ _ _ Ext.refl s1 (tupc (SqT.of h) r)⟩⟩
        | ktu h r => cases hd; exact ⟨_, _, rfl, .inr ⟨h, q1 _ _ _ Ext.refl s1 (tupc h r)⟩⟩
        | lsf h r =>
          cases hd
          refine ⟨_, _, rfl, .inl ⟨h.l, q1 _ _ _ Ext.refl s1 fun i H π S x s hk => ?_⟩⟩
          have h1' := (x.i.sqF h).l
          have h2' := r.ext x
          refine ⟨fun d hd => ?_, fun hi => ⟨_, h1', by rw [h2'.len]; rw [enumF_len] at hi; exact hi⟩⟩
          obtain ⟨y, hy, rfl⟩ := enumF_get hd
          obtain ⟨u, h3, h4⟩ := h2'.get hy
          refine ⟨⟨_, u, h1', h3⟩, fun z H' hz => ?_⟩
          obtain ⟨T, u', rfl, hT, rfl, hy'⟩ := hz
          have := hy' _ h1'
          rw [h3] at this
          cases this
          exact enum_turn s hT h4
        | ref h => exact absurd rfl (n2 _)
        | _ => cases hd
      · exact q1.elim
    · exact q1.elim⟩
end
end Pu
namespace Pu
open L2 PySem PySem.Spec PyProof.Rows Lb
section
variable {X : Cx} {CX : CXT} {k : Nat} {C p g a dx : Addr} {f : Str} {sp : Sp} {E : L2.St → XK} {e : Expr} {pos : Pos} {ta : TE}
def tPropX (C : Addr) (sp : Sp) (E : L2.St → XK) (ta : TE) : TE := fun σ H Q => ta σ H fun x H1 => ∃ a dx fs, x = .ref a ∧ H1 a = some (.ins C dx fs) ∧ sp [.ref a] H1 Q (E σ)
theorem pe_propX (he : PE X e ta) (c : Cls X.K C) (hp : PropOf X.K C f p g) (F : FnR X.prog X.w X.K X.mg X.base CX k g sp) (hr : Room (k + 1) X.A) (hx : ∀ σ, PassesAt CX X.nox σ (E σ))
    (hab : attributeBase e f X.env (eval e X.env) = eval e X.env := by rfl) : PE X (.Attribute e f pos) (tPropX C sp E ta) := by
  refine ⟨fun pins s σ H Q I h => ?_⟩
  refine attr_of hab (thn (he.run pins s σ H _ I h) fun u s1 ⟨x, H1, I1, rx, a, dx, fs, ex, ea, q⟩ => ?_)
  subst ex
  obtain rfl : u = Value.ref a := rx
  obtain ⟨mA, O, _, _, _, _⟩ := ins_get I1.hok ea
  obtain ⟨od, J, _⟩ := O.look
  obtain ⟨rest, hrec⟩ := hp.rec_
  have I2 := I1.tok (s1.toks + 1)
  have hc : (PySem.W.clsIn X.K C).isSome = true := by
    obtain ⟨cd, hc, _⟩ := PySem.W.any_some c.hd
    rw [hc]
    rfl
  refine PySem.W.get_bind I1.kIn J (PySem.W.plainGet_of (c.get f)).1 (PySem.W.findObj_data hc hp.at_ hp.get hp.tak) (PySem.W.plainGet_of (c.get f)).2 (wpAny_call (PySem.W.prop_get (s := { s1 with toks := s1.toks + 1 }) I1.kIn hrec ?_))
  refine codeAny_mono (F X.A.in1 X.stack { s1 with toks := s1.toks + 1 } H1 [.ref a] [.ref a] Q (E σ) hr.in1 I2.env0.in1 (.cons rfl .nil) q) fun r s' hq => ?_
  cases r with
  | error er => exact False.elim (hx σ pins H1 { s1 with toks := s1.toks + 1 } er s' (I2.wish _) hq)
  | ok fl =>
    cases fl with
    | ret u =>
      obtain ⟨v, H', I3, rv, q3⟩ := I2.after hq
      show wpAny _ _ (handedOut u) _ _ _
      rw [PySem.W.handedOut_of (handed_of rv)]
      exact wpAny_pure ⟨v, H', I3, rv, q3⟩
    | next => exact False.elim hq
    | brk => exact False.elim hq
    | cont => exact False.elim hq
end
def eProp (C : Nat) (F : List D → Sto → Res D) (fo : Ex) : Ex := fun e S => (fo e S).bind fun x S1 => if isIns C x S1 = true then (match F [x] S1 with | .ok d S2 => .ok d S2 | _ => .no) else .no
section
variable {K : PySem.W.Frag} {c : EC} {X : Cx} {W : WX} {ex : Expr} {fo : Ex} {H : Hp} {π : List Addr} {S : Sto} {F : List D → Sto → Res D}
theorem ev_prop {C : Nat} {E : L2.St → XK} (h : PE X ex (tPropX (c.cl C) (FnP c.K c.cl 1 F) E (EvT c W fo))) : PE X ex (EvT c W (eProp C F fo)) := h.weak fun σ H Q ⟨e, S, π, ev, q⟩ =>
  ⟨e, S, π, ev, (run_bind (rel := rV c) q).mono fun x H1 ⟨o, S1, π1, e1, s1, rx, q1⟩ => by
    split at q1
    · rename_i ho
      obtain ⟨a, dx, fs, rfl, h1⟩ := isIns_at s1 rx ho
      refine ⟨a, dx, fs, rfl, h1, fnP_quiet s1 (.cons rx .nil) rfl ?_⟩
      split at q1
      · rename_i d S' e; exact ⟨d, S', e, q1⟩
      · exact q1.elim
    · exact q1.elim⟩
end
end Pu
namespace Pu
open L2 PySem PySem.Spec PyProof.Rows Lb
def sCutT (o i a : Ex) : Sx := fun e S => (a e S).st e fun d S1 => (o e S1).st e fun x S2 => (i e S2).st e fun k S3 => match x, d, k with
  | .ref l, .ref m, .int j => (match S3[l]?, S3[m]? with
    | some (.lst xs), some (.lst []) => if l ≠ m ∧ 0 ≤ j ∧ j ≤ xs.length then .nx e (S3.set l (.lst (xs.take j.toNat))) else .no
    | _, _ => .no)
  | _, _, _ => .no
section
variable {K : PySem.W.Frag} {c : EC} {X : Cx} {W : WX} {ex : Expr} {fo : Ex} {ak : Ax} {F : List D → Sto → Res D}
theorem ev_mN0 {C n mk p : Nat} {m : Str} {gV : List V → List V → List V} {gD : List D → List D → List D} (h : PE X ex (tMethN (c.cl C) m n mk (FnP c.K c.cl p F) gV (WE W) (EvT c W fo) tNil (ArT c W ak)))
    (hg : ∀ {H : Hp} {π : List Addr} {vs zs : List V} {ds es : List D}, VRs c.K H π vs ds → VRs c.K H π zs es → VRs c.K H π (gV vs zs) (gD ds es)) (hl : ∀ ds es : List D, ds.length = n → es.length = mk → (gD ds es).length = p) :
    PE X ex (EvT c W (eMN C m n mk gD F fo aN ak)) := h.weak fun σ H Q ⟨e, S, π, ev, q⟩ =>
  ⟨e, S, π, ev, (run_bind (rel := rV c) q).mono fun x H1 ⟨o, S1, π1, e1, s1, rx, q1⟩ => by
    split at q1
    · rename_i ho
      obtain ⟨a, dx, fs, rfl, h1, h2⟩ := isObj_at s1 rx ho
      refine ⟨a, dx, fs, rfl, h1, h2, ?_⟩
      unfold aN Res.bind at q1
      dsimp only at q1
      refine ⟨e, S1, π1, ev.ext e1 s1, (run_bind (rel := rVs c) q1).mono fun zs H3 ⟨es, S3, π3, e3, s3, rz, q3⟩ => ?_⟩
      split at q3
      · rename_i hh
        have r := hg (.cons (rx.ext e3) .nil) rz
        exact ⟨⟨hh.1, by rw [rz.len]; exact hh.2⟩, fnP_of s3 r (by rw [r.len]; exact hl _ _ hh.1 hh.2) q3⟩
      · exact q3.elim
    · exact q1.elim⟩
end
end Pu
namespace Pu
open L2 PySem PySem.Spec PyProof.Rows Lb
/-- one of several readings, by the def that is handed on -/
def SpL (K : PySem.W.Frag) (cl : Nat → Addr) (l : List (Addr × (List D → Sto → Res D))) : Sp := fun vs H Q E => ∃ p, p ∈ l ∧ FnP1 K cl 1 p.1 p.2 vs H Q E
theorem fnr_nil {P w K mg base CX k f cl} : FnR P w K mg base CX k f (SpL K cl []) := fun _ _ _ _ _ _ _ _ _ _ _ ⟨_, h, _⟩ => nomatch h
theorem fnr_cons {P w K mg base CX k j f cl a F l} (hj : j ≤ k) (h1 : FnR P w K mg base CX j f (FnP1 K cl 1 a F)) (h2 : FnR P w K mg base CX k f (SpL K cl l)) : FnR P w K mg base CX k f (SpL K cl ((a, F) :: l)) :=
  fun A st s H us vs Q E hr e0 r ⟨p, hp, h⟩ => by
    rcases List.mem_cons.mp hp with rfl | hp
    · exact h1 A st s H us vs Q E (hr.mono hj) e0 r h
    · exact h2 A st s H us vs Q E hr e0 r ⟨p, hp, h⟩
def tCs : List Addr → TA
  | [] => tNil
  | a :: r => tCons (tC (.ref a)) (tCs r)
theorem tCs_run {σ : L2.St} {H : Hp} : ∀ {as : List Addr} {Q : List V → Hp → Prop}, Q (as.map V.ref) H → tCs as σ H Q
  | [], _, q => q
  | a :: r, _, q => tCs_run (as := r) q
def eMPick (C : Nat) (m : Str) (Fs : List (List D → Sto → Res D)) (o fi : Ex) : Ex := fun e S => (o e S).bind fun x S1 => if isObj C m x S1 = true then (fi e S1).bind fun i S2 => match i with
  | .int k => if 0 ≤ k then (match Fs[k.toNat]? with | some F => F [x] S2 | none => .no) else .no
  | _ => .no else .no
section
variable {c : EC} {W : WX} {ex : Expr} {fo fi : Ex}
theorem ev_mPick {C : Nat} {m : Str} {as : List Addr} {Fs : List (List D → Sto → Res D)} (h : PE X ex (tMethX (c.cl C) m (SpL c.K c.cl (as.zip Fs)) (WE W) (EvT c W fo) (tCons (tOp (rIxT c.K) (tTup (tCs as)) (EvT c W fi)) tNil)))
    (hl : as.length = Fs.length) (h64 : as.length ≤ 60) : PE X ex (EvT c W (eMPick C m Fs fo fi)) := h.weak fun σ H Q ⟨e, S, π, ev, q⟩ =>
  ⟨e, S, π, ev, (run_bind (rel := rV c) q).mono fun x H1 ⟨o, S1, π1, e1, s1, rx, q1⟩ => by
    split at q1
    · rename_i ho
      obtain ⟨b, dx, fs, rfl, h1, h2⟩ := isObj_at s1 rx ho
      refine ⟨b, dx, fs, rfl, h1, h2, ?_⟩
      refine tCs_run (Q := fun xs H1 => xs.length ≤ sizeLine ∧ ∀ p, H1 p = none → _) ⟨lim_size (by rw [List.length_map]; omega), fun p hp => ?_⟩
      have ep : Ext H1 π1 (upd H1 p (.tup (as.map V.ref))) π1 := Ext.new hp
      have sp := s1.new (o := .tup (as.map V.ref)) hp
      refine ⟨e, S1, π1, ev.ext (e1.trans ep) sp, (run_bind (rel := rV c) (Run.ext q1 ep)).mono fun y H2 ⟨i, S2, π2, e2, s2, ri, q2⟩ => ?_⟩
      cases ri with
      | int k =>
        dsimp only at q2
        split at q2
        · rename_i hk
          split at q2
          · rename_i F hF
            have hkl : k.toNat < as.length := by rw [hl]; exact (List.getElem?_eq_some_iff.mp hF).1
            obtain ⟨j, rfl⟩ := Int.eq_ofNat_of_zero_le hk
            have hjl : j < as.length := hkl
            have hF : Fs[j]? = some F := hF
            refine ⟨p, as.map V.ref, (j : Int), .ref (as[j]'hjl), rfl, rfl, .inl (.inl (e2.im p _ (fun z => z) upd_same)), ?_, ⟨(as[j]'hjl, F), ?_, [.ref b], rfl, fnP_of s2 (.cons (rx.ext (ep.trans e2)) .nil) rfl q2⟩⟩
            · exact atI_nat (by rw [List.getElem?_map, List.getElem?_eq_getElem hjl]; rfl)
            · refine List.mem_iff_getElem?.mpr ⟨j, ?_⟩
              rw [List.getElem?_zip_eq_some]
              exact ⟨List.getElem?_eq_getElem hjl, hF⟩
          · exact q2.elim
        · exact q2.elim
      | _ => exact q2.elim
    · exact q1.elim⟩
end
end Pu
namespace Lb
open L2 PySem PySem.Spec PyProof.Rows
def tCallLX (i : Nat) (f : Addr) (sp : Sp) (E : L2.St → XK) (t : TA) : TE := fun σ H Q => σ[i]? = some (some (.ref f)) ∧ t σ H fun vs H1 => sp vs H1 Q (E σ)
section
variable {X : Cx} {CX : CXT} {k i : Nat} {f : Addr} {sp : Sp} {E : L2.St → XK} {x : Str} {p pos : Pos} {e : Expr} {es : List Expr} {t : TA}
theorem pe_callLX (F : FnR X.prog X.w X.K X.mg X.base CX k f sp) (hr : Room k X.A) (hN : X.N[i]? = some x) (hv : Vis X.env.scope x) (hk : PySem.W.keepIn X.K (.ref f) = true) (hx : ∀ σ, PassesAt CX X σ (E σ)) (ha : PA X (e :: es) t)
    (h1 : (x == ("__debug__" : Str)) = false := by decide) (h2 : (x == ("__classdict__" : Str)) = false := by decide)
    (h3 : starEach (e :: es) X.env = (false, eval e X.env) :: starEach es X.env := by rfl) (h4 : (backTo pos (starEach es X.env)).any (·.1) = false := by rfl) :
    PE X (.Call (.Name x p) (e :: es) [] pos) (tCallLX i f sp E t) := ⟨fun pins s σ H Q I h => by
  refine wpAny_Call_Name_kw (thn ((pe_var (pos := p) hN hv h1 h2).run pins s σ H (fun v G => v = .ref f ∧ G = H) I ⟨.ref f, h.1, rfl, rfl⟩) ?_)
  rintro u s1 ⟨v, G, I1, r1, rfl, rfl⟩
  cases r1
  refine PySem.W.callWith_K (h₀ := X.base) I.ok.mod.kin hk (thn (ha.run pos pins s1 σ _ _ I1 h.2) ?_) h3 h4
  rintro us s2 ⟨vs, H2, I2, r, q⟩
  exact ⟨I2.kIn, run_fnX F hr (hx σ) I2 r q⟩⟩
/-- raise of a built-in class of which only its being one is known -/
theorem ps_raiseK {W : WX} {m : Str} {j : Nat} {p2 pos' : Pos} {T N I : String} (hc : X.calm = true) (tk : Takes X W) (F : ExcClass T N I) (ty : typeOf (.type T) = pure (.type "type")) (hg : Gl X x) (hm : X.mg x = none) (hv : bootBuiltins x = some (.type T)) (hn : x ≠ "__name__" := by decide) (hd : (x == ("__debug__" : Str)) = false := by decide) :
    PS X (.Raise (some (.Call (.Name x p) [.Constant (.str m) j p2] [] pos)) none pos') (fun _ σ H => ∀ d, W (.type T) d σ H) :=
  (ps_raise hc tk (pmk_exc F ty hg hm hv (pa_cons pe_str pa_nil) hn hd rfl rfl)).weak fun D σ H h => ⟨by show 1 ≤ sizeLine; rw [sizeLine_eq]; omega, h⟩
end
end Lb
namespace Pu
open L2 PySem PySem.Spec PyProof.Rows Lb
def sRetFinX (fa : Ex) (g : Sx) : Sx := fun e S => match fa e S with
  | .ok d S1 => (match g e S1 with | .nx _ S2 => .rt d S2 | _ => .no)
  | .er C x S1 => (match g e S1 with | .nx e2 S2 => .er C x e2 S2 | _ => .no)
  | .no => .no
section
variable {X : Cx} {c : EC} {W : WX} {ex : Expr} {st : Stmt} {fa : Ex} {aa : Ax} {g : Sx} {F : List D → Sto → Res D}
theorem s_retFinX (h : PS X st (tRetFinX (fun W' => EvT c W' fa) (StT c wF g) (StT c wF g) W)) : PS X st (StT c W (sRetFinX fa g)) := h.weak fun D σ H ⟨e, S, π, ev, q⟩ => by
  unfold sRetFinX at q
  refine ⟨e, S, π, ev, ?_⟩
  revert q
  cases fa e S with
  | ok d S1 =>
    intro q v H1 π1 x1 s1 rv
    dsimp only at q
    split at q
    · rename_i e2 S2 h2
      refine ⟨e, S1, π1, ev.ext x1 s1, ?_⟩
      rw [h2]
      exact fun σ' H' π' x2 ev' => q v H' π' (x1.trans x2) ev'.sr (rv.ext x2)
    · exact q.elim
  | er C x S1 =>
    intro q H1 π1 dd x1 s1 xr
    dsimp only at q
    split at q
    · rename_i e2 S2 h2
      refine ⟨e, S1, π1, ev.ext x1 s1, ?_⟩
      rw [h2]
      exact fun σ' H' π' x2 ev' => q σ' H' π' dd (x1.trans x2) ev' fun z => (xr z).ext x2
    · exact q.elim
  | no => exact fun q => q.elim
theorem ev_callLX {i p : Nat} {f : Addr} (h : PE X ex (tCallLX i f (FnP c.K c.cl p F) (WE W) (ArT c W aa))) (hx : ∃ xe, c.xs[0]? = some xe ∧ xe.a = f) : PE X ex (EvT c W (eCallL i p F aa)) := h.weak fun σ H Q ⟨e, S, π, ev, q⟩ => by
  unfold eCallL at q
  split at q
  · rename_i hj
    obtain ⟨v, hv, x, h1, h2⟩ := ev.sl i (.x 0) hj
    obtain ⟨xe, k1, k2⟩ := hx
    rw [h1] at k1
    cases k1
    subst h2 k2
    refine ⟨hv, e, S, π, ev, (run_bind (rel := rVs c) q).mono fun vs H1 ⟨ds, S1, π1, e1, s1, rs, q1⟩ => ?_⟩
    split at q1
    · rename_i hl
      exact fnP_of s1 rs (by rw [rs.len]; exact hl) q1
    · exact q1.elim
  · exact q.elim
end
end Pu
namespace Lb
open L2 PySem PySem.Spec PyProof.Rows
def rOwnEq1 (C : Addr) (sp : Sp) (E : XK) : R2 := fun x y H Q => ∃ a dx fs, x = .ref a ∧ H a = some (.ins C dx fs) ∧ ((∃ i, y = .int i) ∨ (∃ p xs, y = .ref p ∧ H p = some (.lst xs)) ∨ ∃ b dy gs, y = .ref b ∧ H b = some (.ins C dy gs)) ∧ sp [x, y] H Q E
theorem op_eqOwn1 {X : Cx} {CX : CXT} {C f : Addr} {k : Nat} {sp : Sp} {E : XK} (o : OwnDef X.K C "__eq__" f) (h1 : PySem.W.subIn X.K (.type "int") (.ref C) = some false) (h2 : PySem.W.subIn X.K (.type "list") (.ref C) = some false)
    (F : FnR X.prog X.w X.K X.mg X.base CX k f sp) (hr : Room k X.A) (hx : Passes CX X E) : OpR X (compareOp .Eq) (rOwnEq1 C sp E) := by
  intro pins s σ H x y v u Q I rx ry h
  obtain ⟨a, dx, fs, rfl, ha, hy, q⟩ := h
  obtain rfl : v = Value.ref a := rx
  obtain ⟨ox, od, J⟩ := inst_at I ha
  obtain ⟨m, fr⟩ := I.fr
  obtain ⟨tb, hL, hn⟩ : ∃ tb, PySem.W.Looks (model X.prog X.w) s.heap (typeOf u) tb ∧ PySem.W.notFirst X.K C tb = true := by
    rcases hy with ⟨i, rfl⟩ | ⟨p, xs, rfl, hp⟩ | ⟨b, dy, gs, rfl, hb⟩
    · obtain ⟨tk, rfl⟩ : ∃ tk, u = Value.int i tk := ry
      exact ⟨.type "int", PySem.W.Looks.of_pure rfl, by unfold PySem.W.notFirst; simp [h1]⟩
    · obtain rfl : u = Value.ref p := ry
      obtain ⟨its, r, ⟨ob, n, g1, g2, _⟩, _⟩ := I.list (xs := xs) (.inl (.inl hp))
      exact ⟨.type "list", (PySem.W.Looks.ld g1).andThen (by rw [g2]; exact .now), by unfold PySem.W.notFirst; simp [h2]⟩
    · obtain rfl : u = Value.ref b := ry
      obtain ⟨oy, oe, J'⟩ := inst_at I hb
      exact ⟨.ref C, J'.type, by unfold PySem.W.notFirst; simp⟩
  show wpAny _ _ (richCompare .Eq _ _) _ _ _
  refine PySem.W.cmp_K hr.units0 fr I.ok.mod.kin J hL hn o.at_ o.fn ?_
  exact wpAny_mono (run_fnX (E := fun _ => E) (vs := [.ref a, y]) (us := [.ref a, u]) F hr (fun pins H s e s' => hx pins σ H s e s') I (.cons rfl (.cons ry .nil)) q) (fun _ _ z => cmp_back z) fun _ _ z => z
end Lb
namespace Pu
open L2 PySem PySem.Spec PyProof.Rows Lb
def okR (C : Nat) (y : D) (S : Sto) : Bool := match y with
  | .int _ => true
  | .ref l => (match S[l]? with | some (.lst _) => true | some (.obj C' _) => decide (C' = C) | _ => false)
  | _ => false
def dOwn1 (C : Nat) (F : List D → Sto → Res D) (x y : D) (S : Sto) : Res D := if isIns C x S = true ∧ okR C y S = true then (match F [x, y] S with | .ok d S' => .ok d S' | _ => .no) else .no
theorem os_own1 {c : EC} {C : Nat} {E : XK} {F : List D → Sto → Res D} : OpS c (rOwnEq1 (c.cl C) (FnP c.K c.cl 2 F) E) (dOwn1 C F) := by
  intro W σ H π S x y dx dy Q s rx ry q
  unfold dOwn1 at q
  split at q
  · rename_i h
    obtain ⟨a, d1, fs, rfl, h1⟩ := isIns_at s rx h.1
    have hy : (∃ i, y = .int i) ∨ (∃ p xs, y = .ref p ∧ H p = some (.lst xs)) ∨ ∃ b dy gs, y = .ref b ∧ H b = some (.ins (c.cl C) dy gs) := by
      have h2 := h.2
      unfold okR at h2
      cases ry with
      | int i => exact .inl ⟨i, rfl⟩
      | @ref l b hl =>
        dsimp only at h2
        split at h2
        · rename_i ds hS
          obtain ⟨xs, h3, _⟩ := s.at_ _ _ _ hl hS
          exact .inr (.inl ⟨b, xs, rfl, h3⟩)
        · rename_i C' fs hS
          obtain ⟨dx, gs, h3, _⟩ := s.at_ _ _ _ hl hS
          rw [of_decide_eq_true h2] at h3
          exact .inr (.inr ⟨b, dx, gs, rfl, h3⟩)
        · cases h2
      | _ => cases h2
    refine ⟨a, d1, fs, rfl, h1, hy, fnP_quiet s (.cons rx (.cons ry .nil)) rfl ?_⟩
    split at q
    · rename_i d S' e; exact ⟨d, S', e, q⟩
    · exact q.elim
  · exact q.elim
end Pu
namespace LbW
open PySem PySem.Spec PyProof.Rows L2 Lb Pu
abbrev ci_Form : Nat := 11
abbrev ci_Track : Nat := 12
abbrev ci_Window : Nat := 13
abbrev ci_View : Nat := 14
abbrev ci_Store : Nat := 15
def emT_Gone : Nat → Option Bool
  | 1 => some false
  | 2 => some false
  | 3 => some false
  | 4 => some false
  | 5 => some false
  | 6 => some false
  | 7 => some true
  | 8 => some false
  | 9 => some false
  | 1000 => some false
  | _ => none
def emT_Held : Nat → Option Bool
  | 1 => some false
  | 2 => some false
  | 3 => some false
  | 4 => some false
  | 5 => some false
  | 6 => some true
  | 7 => some false
  | 8 => some false
  | 9 => some false
  | 1000 => some false
  | _ => none
def emT_KeyError : Nat → Option Bool
  | 1 => some false
  | 2 => some false
  | 3 => some false
  | 4 => some false
  | 5 => some false
  | 6 => some false
  | 7 => some false
  | 8 => some false
  | 9 => some false
  | 1000 => some true
  | _ => none
def cs_alpha : List Nat := [11]
def cs_beta : List Nat := [11]
def cs_cells : List Nat := [14, 15]
def cs_closed : List Nat := [14]
def cs_count : List Nat := [13]
def cs_lent_out : List Nat := [14, 15]
def cs_locked : List Nat := [14]
def cs_size : List Nat := [13, 14]
def cs_start : List Nat := [13]
def cs_step : List Nat := [13]
def cs_until : List Nat := [12]
def cs_window : List Nat := [14]
def io_os_View : List Nat := []
noncomputable def G_View_check : Sx := (sIf (bE (eU (fldD cs_closed "closed") (eV 0)))
    (sRaiseY 7)
    sNext)
noncomputable def F_View_check : List D → Sto → Res D := fnS 1 G_View_check
noncomputable def G_is_integer : Sx := (sSeq (sIf (bOr (bNot (bE (eU (isiTy .int) (eV 0)))) (bE (eU (isiTy .bool) (eV 0))))
    (sRet (eC (.bl false)))
    sNext)
    (sSeq (sIf (bAnd (bE (eB dIsntN (eV 1) (eC .non))) (bE (eB dLt (eV 0) (eV 1))))
    (sRet (eC (.bl false)))
    sNext)
    (sRet (eOr (eB dIsN (eV 2) (eC .non)) (eB dLe (eV 0) (eV 2))))))
noncomputable def F_is_integer : List D → Sto → Res D := fnS 3 G_is_integer
noncomputable def G_View_index_of : Sx := (sSeq (sSet 2 (eU (fldD cs_count "count") (eU (fldD cs_window "window") (eV 0))))
    (sSeq (sIf (bNot (bE (eF 3 F_is_integer (aC (eV 1) (aC (eU dNeg (eV 2)) (aC (eB dSub (eV 2) (eC (.int 1))) aN))))))
    (sRaiseX 4 "index" (aC (eV 1) aN))
    sNext)
    (sRet (eIf (bE (eB dLt (eV 1) (eC (.int 0)))) (eB dAdd (eV 1) (eV 2)) (eV 1)))))
noncomputable def F_View_index_of : List D → Sto → Res D := fnS 3 G_View_index_of
noncomputable def G_View_places_of : Sx := (sSeq (sSet 2 (eB dAdd (eU (fldD cs_start "start") (eU (fldD cs_window "window") (eV 0))) (eB dMul (eV 1) (eU (fldD cs_step "step") (eU (fldD cs_window "window") (eV 0))))))
    (sRet (eLstRg (eV 2) (eB dAdd (eV 2) (eU (fldD cs_size "size") (eV 0))))))
noncomputable def F_View_places_of : List D → Sto → Res D := fnS 3 G_View_places_of
noncomputable def G_View_give : Sx := (sSeq (sSet 3 (eV 2))
    (sFor (itSeq (eM 14 "places_of" 2 F_View_places_of (eV 0) (aC (eV 1) aN))) (.nm 4)
    (sSeq (sSub (eU (fldD cs_cells "cells") (eV 0)) (eV 4) (eB dBand (eV 3) (eC (.int 255))))
    (sSet 3 (eB dShr (eV 3) (eC (.int 8)))))))
noncomputable def F_View_give : List D → Sto → Res D := fnS 5 G_View_give
noncomputable def G_View___setitem__ : Sx := (sSeq (sDrop (eM 14 "check" 1 F_View_check (eV 0) aN))
    (sSeq (sIf (bE (eU (fldD cs_locked "locked") (eV 0)))
    (sRaiseY 8)
    sNext)
    (sSeq (sSet 3 (eM 14 "index_of" 2 F_View_index_of (eV 0) (aC (eV 1) aN)))
    (sSeq (sIf (bNot (bE (eF 3 F_is_integer (aC (eV 2) (aC (eC (.int 0)) (aC (eU (tabI [(1, 255), (2, 65535), (4, 4294967295)]) (eU (fldD cs_size "size") (eV 0))) aN))))))
    (sRaiseX 9 "value" (aC (eV 2) aN))
    sNext)
    (sDrop (eM 14 "give" 3 F_View_give (eV 0) (aC (eV 3) (aC (eV 2) aN))))))))
noncomputable def F_View___setitem__ : List D → Sto → Res D := fnS 4 G_View___setitem__
noncomputable def G_Store___init__ : Sx := (sSeq (sIf (bOr (bNot (bE (eU (isiTys [.list, .tuple]) (eV 1)))) (bE (eB dGt (eK bLen (aC (eV 1) aN)) (eC (.int 10000)))))
    (sRaiseX 5 "index" (aC (eU dNeg (eC (.int 1))) aN))
    sNext)
    (sSeq (sFor (itEnum (aC (eV 1) aN)) (.tp [2, 3])
    (sIf (bNot (bE (eF 3 F_is_integer (aC (eV 3) (aC (eC (.int 0)) (aC (eC (.int 255)) aN))))))
    (sRaiseX 5 "index" (aC (eV 2) aN))
    sNext))
    (sSeq (sFldP cs_cells "cells" (eV 0) (eK bList (aC (eV 1) aN)))
    (sFldP cs_lent_out "lent_out" (eV 0) (eK mkL aN)))))
noncomputable def F_Store___init__ : List D → Sto → Res D := fnS 4 G_Store___init__
noncomputable def G_View___init__ : Sx := (sSeq (sFldP cs_cells "cells" (eV 0) (eV 1))
    (sSeq (sFldP cs_window "window" (eV 0) (eV 2))
    (sSeq (sFldP cs_locked "locked" (eV 0) (eV 3))
    (sSeq (sFldP cs_size "size" (eV 0) (eU (fldD cs_size "size") (eV 2)))
    (sSeq (sFldP cs_lent_out "lent_out" (eV 0) (eV 4))
    (sSeq (sFldP cs_closed "closed" (eV 0) (eC (.bl false)))
    (sDrop (eBm isLst mAppend (eV 4) (aC (eV 0) aN)))))))))
noncomputable def F_View___init__ : List D → Sto → Res D := fnS 5 G_View___init__
noncomputable def G_Form___init__ : Sx := (sSeq (sFldP cs_alpha "alpha" (eV 0) (eV 1))
    (sFldP cs_beta "beta" (eV 0) (eV 2)))
noncomputable def F_Form___init__ : List D → Sto → Res D := fnS 3 G_Form___init__
noncomputable def G_number_form : Sx := (sRet (eK (mkO 11 3 F_Form___init__) (aC (eV 0) (aC (eC (.int 0)) aN))))
noncomputable def F_number_form : List D → Sto → Res D := fnS 1 G_number_form
noncomputable def G_Track_narrow : Sx := (sIf (bOr (bE (eB dIsN (eU (fldD cs_until "until") (eV 0)) (eC .non))) (bE (eB dLt (eV 1) (eU (fldD cs_until "until") (eV 0)))))
    (sFldP cs_until "until" (eV 0) (eV 1))
    sNext)
noncomputable def F_Track_narrow : List D → Sto → Res D := fnS 2 G_Track_narrow
noncomputable def G_Track_divide : Sx := (sSeq (sIf (bE (eB dNeX (eB dMod (eU (fldD cs_beta "beta") (eV 1)) (eV 2)) (eC (.int 0))))
    (sSeq (sDrop (eM 12 "narrow" 2 F_Track_narrow (eV 0) (aC (eC (.int 0)) aN)))
    (sRet (eK mkT (aC (eK (mkO 11 3 F_Form___init__) (aC (eB dFdiv (eU (fldD cs_alpha "alpha") (eV 1)) (eV 2)) (aC (eC (.int 0)) aN))) (aC (eB dMod (eU (fldD cs_alpha "alpha") (eV 1)) (eV 2)) aN)))))
    sNext)
    (sRet (eK mkT (aC (eK (mkO 11 3 F_Form___init__) (aC (eB dFdiv (eU (fldD cs_alpha "alpha") (eV 1)) (eV 2)) (aC (eB dFdiv (eU (fldD cs_beta "beta") (eV 1)) (eV 2)) aN))) (aC (eB dMod (eU (fldD cs_alpha "alpha") (eV 1)) (eV 2)) aN)))))
noncomputable def F_Track_divide : List D → Sto → Res D := fnS 3 G_Track_divide
noncomputable def G_Form___sub__ : Sx := (sRet (eK (mkO 11 3 F_Form___init__) (aC (eB dSub (eU (fldD cs_alpha "alpha") (eV 0)) (eU (fldD cs_alpha "alpha") (eV 1))) (aC (eB dSub (eU (fldD cs_beta "beta") (eV 0)) (eU (fldD cs_beta "beta") (eV 1))) aN))))
noncomputable def F_Form___sub__ : List D → Sto → Res D := fnS 2 G_Form___sub__
noncomputable def G_Track_below : Sx := (sSeq (sSet 3 (eB dSub (eU (fldD cs_alpha "alpha") (eV 1)) (eU (fldD cs_alpha "alpha") (eV 2))))
    (sSeq (sSet 4 (eB dSub (eU (fldD cs_beta "beta") (eV 1)) (eU (fldD cs_beta "beta") (eV 2))))
    (sSeq (sIf (bE (eB dLt (eV 3) (eC (.int 0))))
    (sSeq (sIf (bE (eB dGt (eV 4) (eC (.int 0))))
    (sDrop (eM 12 "narrow" 2 F_Track_narrow (eV 0) (aC (eB dSub (eB dFdiv (eB dSub (eB dAdd (eU dNeg (eV 3)) (eV 4)) (eC (.int 1))) (eV 4)) (eC (.int 1))) aN)))
    sNext)
    (sRet (eC (.bl true))))
    sNext)
    (sSeq (sIf (bE (eB dLt (eV 4) (eC (.int 0))))
    (sDrop (eM 12 "narrow" 2 F_Track_narrow (eV 0) (aC (eB dFdiv (eV 3) (eU dNeg (eV 4))) aN)))
    sNext)
    (sRet (eC (.bl false)))))))
noncomputable def F_Track_below : List D → Sto → Res D := fnS 5 G_Track_below
noncomputable def G_Form___add__ : Sx := (sRet (eK (mkO 11 3 F_Form___init__) (aC (eB dAdd (eU (fldD cs_alpha "alpha") (eV 0)) (eU (fldD cs_alpha "alpha") (eV 1))) (aC (eB dAdd (eU (fldD cs_beta "beta") (eV 0)) (eU (fldD cs_beta "beta") (eV 1))) aN))))
noncomputable def F_Form___add__ : List D → Sto → Res D := fnS 2 G_Form___add__
noncomputable def G_limited : Sx := (sSeq (sIf (bE (eM 12 "below" 3 F_Track_below (eV 0) (aC (eV 1) (aC (eV 2) aN))))
    (sRet (eV 2))
    sNext)
    (sSeq (sIf (bE (eM 12 "below" 3 F_Track_below (eV 0) (aC (eV 3) (aC (eV 1) aN))))
    (sRet (eV 3))
    sNext)
    (sRet (eV 1))))
noncomputable def F_limited : List D → Sto → Res D := fnS 4 G_limited
noncomputable def G_from_end : Sx := (sSeq (sIf (bE (eB dLt (eV 1) (eC (.int 0))))
    (sRet (eB (dOwn 11 F_Form___add__) (eV 2) (eF 1 F_number_form (aC (eV 1) aN))))
    sNext)
    (sRet (eF 1 F_number_form (aC (eV 1) aN))))
noncomputable def F_from_end : List D → Sto → Res D := fnS 3 G_from_end
noncomputable def G_chosen_cells : Sx := (sSeq (sSet 5 (eF 1 F_number_form (aC (eC (.int 1)) aN)))
    (sSeq (sIf (bE (eB dGt (eV 4) (eC (.int 0))))
    (sSeq (sSet 6 (eF 1 F_number_form (aC (eC (.int 0)) aN)))
    (sSeq (sSet 7 (eIf (bE (eB dIsN (eV 2) (eC .non))) (eV 6) (eF 4 F_limited (aC (eV 0) (aC (eF 3 F_from_end (aC (eV 0) (aC (eV 2) (aC (eV 1) aN)))) (aC (eV 6) (aC (eV 1) aN)))))))
    (sSeq (sSet 8 (eIf (bE (eB dIsN (eV 3) (eC .non))) (eV 1) (eF 4 F_limited (aC (eV 0) (aC (eF 3 F_from_end (aC (eV 0) (aC (eV 3) (aC (eV 1) aN)))) (aC (eV 6) (aC (eV 1) aN)))))))
    (sSet 9 (eB (dOwn 11 F_Form___sub__) (eV 8) (eV 7))))))
    (sSeq (sSet 6 (eF 1 F_number_form (aC (eU dNeg (eC (.int 1))) aN)))
    (sSeq (sSet 10 (eB (dOwn 11 F_Form___sub__) (eV 1) (eV 5)))
    (sSeq (sSet 7 (eIf (bE (eB dIsN (eV 2) (eC .non))) (eV 10) (eF 4 F_limited (aC (eV 0) (aC (eF 3 F_from_end (aC (eV 0) (aC (eV 2) (aC (eV 1) aN)))) (aC (eV 6) (aC (eV 10) aN)))))))
    (sSeq (sSet 8 (eIf (bE (eB dIsN (eV 3) (eC .non))) (eV 6) (eF 4 F_limited (aC (eV 0) (aC (eF 3 F_from_end (aC (eV 0) (aC (eV 3) (aC (eV 1) aN)))) (aC (eV 6) (aC (eV 10) aN)))))))
    (sSet 9 (eB (dOwn 11 F_Form___sub__) (eV 7) (eV 8))))))))
    (sSeq (sIf (bNot (bE (eM 12 "below" 3 F_Track_below (eV 0) (aC (eF 1 F_number_form (aC (eC (.int 0)) aN)) (aC (eV 9) aN)))))
    (sRet (eK mkT (aC (eV 7) (aC (eF 1 F_number_form (aC (eC (.int 0)) aN)) aN))))
    sNext)
    (sSeq (sSet 11 (eM 12 "divide" 3 F_Track_divide (eV 0) (aC (eB (dOwn 11 F_Form___sub__) (eV 9) (eV 5)) (aC (eK bAbs (aC (eV 4) aN)) aN))))
    (sRet (eK mkT (aC (eV 7) (aC (eB (dOwn 11 F_Form___add__) (eB dIdx (eV 11) (eC (.int 0))) (eV 5)) aN))))))))
noncomputable def F_chosen_cells : List D → Sto → Res D := fnS 12 G_chosen_cells
noncomputable def G_Window___init__ : Sx := (sSeq (sIf (bNot (bE (eF 3 F_is_integer (aC (eV 1) (aC (eC .non) (aC (eC .non) aN))))))
    (sRaiseX 2 "part" (aC (eC (.int 0)) aN))
    sNext)
    (sSeq (sIf (bOr (bNot (bE (eF 3 F_is_integer (aC (eV 2) (aC (eC .non) (aC (eC .non) aN)))))) (bE (eB dEqX (eV 2) (eC (.int 0)))))
    (sRaiseX 2 "part" (aC (eC (.int 1)) aN))
    sNext)
    (sSeq (sIf (bNot (bE (eF 3 F_is_integer (aC (eV 3) (aC (eC (.int 0)) (aC (eC .non) aN))))))
    (sRaiseX 2 "part" (aC (eC (.int 2)) aN))
    sNext)
    (sSeq (sIf (bOr (bNot (bE (eF 3 F_is_integer (aC (eV 4) (aC (eC (.int 1)) (aC (eC (.int 4)) aN)))))) (bOr (bE (eB dEqX (eV 4) (eC (.int 3)))) (bE (eB dGt (eV 4) (eK bAbs (aC (eV 2) aN))))))
    (sRaiseX 2 "part" (aC (eC (.int 3)) aN))
    sNext)
    (sSeq (sFldP cs_start "start" (eV 0) (eV 1))
    (sSeq (sFldP cs_step "step" (eV 0) (eV 2))
    (sSeq (sFldP cs_count "count" (eV 0) (eV 3))
    (sFldP cs_size "size" (eV 0) (eV 4)))))))))
noncomputable def F_Window___init__ : List D → Sto → Res D := fnS 5 G_Window___init__
noncomputable def G_Track___init__ : Sx := (sFldP cs_until "until" (eV 0) (eC .non))
noncomputable def F_Track___init__ : List D → Sto → Res D := fnS 1 G_Track___init__
noncomputable def G_Window_sliced : Sx := (sSeq (sIf (bE (eB dIsN (eV 3) (eC .non)))
    (sSet 3 (eC (.int 1)))
    sNext)
    (sSeq (sIf (bE (eB dEqX (eV 3) (eC (.int 0))))
    (sRaiseX 1 "number" (aC (eC (.int 0)) aN))
    sNext)
    (sSeq (sAsg (.tp [4, 5]) (eF 5 F_chosen_cells (aC (eK (mkO 12 1 F_Track___init__) aN) (aC (eF 1 F_number_form (aC (eU (fldD cs_count "count") (eV 0)) aN)) (aC (eV 1) (aC (eV 2) (aC (eV 3) aN)))))))
    (sRet (eK (mkO 13 5 F_Window___init__) (aC (eB dAdd (eU (fldD cs_start "start") (eV 0)) (eB dMul (eU (fldD cs_alpha "alpha") (eV 4)) (eU (fldD cs_step "step") (eV 0)))) (aC (eB dMul (eU (fldD cs_step "step") (eV 0)) (eV 3)) (aC (eU (fldD cs_alpha "alpha") (eV 5)) (aC (eU (fldD cs_size "size") (eV 0)) aN)))))))))
noncomputable def F_Window_sliced : List D → Sto → Res D := fnS 6 G_Window_sliced
noncomputable def G_View_sliced : Sx := (sSeq (sDrop (eM 14 "check" 1 F_View_check (eV 0) aN))
    (sRet (eK (mkO 14 5 F_View___init__) (aC (eU (fldD cs_cells "cells") (eV 0)) (aC (eMN 13 "sliced" 4 0 (fun us ws => us) F_Window_sliced (eU (fldD cs_window "window") (eV 0)) (aC (eV 1) (aC (eV 2) (aC (eV 3) aN))) aN) (aC (eU (fldD cs_locked "locked") (eV 0)) (aC (eU (fldD cs_lent_out "lent_out") (eV 0)) aN)))))))
noncomputable def F_View_sliced : List D → Sto → Res D := fnS 4 G_View_sliced
noncomputable def G__law_draw : Sx := (sSeq (sSub (eV 0) (eC (.str "turn")) (eB dAdd (eB dIdx (eV 0) (eC (.str "turn"))) (eC (.int 1))))
    (sSeq (sIf (bE (eB dGt (eB dIdx (eV 0) (eC (.str "left"))) (eC (.int 0))))
    (sSeq (sSet 2 (eB dMod (eK bInt (aC (eB dIdx (eV 0) (eC (.str "left"))) aN)) (eV 1)))
    (sSeq (sSub (eV 0) (eC (.str "left")) (eB dFdiv (eK bInt (aC (eB dIdx (eV 0) (eC (.str "left"))) aN)) (eV 1)))
    (sRet (eV 2))))
    sNext)
    (sSeq (sSet 3 (eB dIdx (eB dAdd (eSl (eB dIdx (eV 0) (eC (.str "cells"))) (pE (eB dIdx (eV 0) (eC (.str "at")))) pN) (eK mkL (aC (eC (.int 0)) aN))) (eC (.int 0))))
    (sSeq (sSub (eV 0) (eC (.str "at")) (eB dAdd (eB dIdx (eV 0) (eC (.str "at"))) (eC (.int 1))))
    (sSeq (sIf (bE (eB dGe (eV 3) (eB dPow (eC (.int 10)) (eC (.int 18)))))
    (sSeq (sSub (eV 0) (eC (.str "left")) (eB dFdiv (eK bInt (aC (eV 3) aN)) (eV 1)))
    (sRet (eB dMod (eK bInt (aC (eV 3) aN)) (eV 1))))
    sNext)
    (sSeq (sSet 4 (eB dAdd (eB dMul (eB dIdx (eV 0) (eC (.str "seed"))) (eC (.int 48271))) (eB dMul (eC (.int 7919)) (eB dIdx (eV 0) (eC (.str "turn"))))))
    (sSeq (sSet 4 (eB dMod (eK bInt (aC (eB dAdd (eV 4) (eB dMod (eK bInt (aC (eV 3) aN)) (eC (.int 2147483629)))) aN)) (eC (.int 2147483647))))
    (sSeq (sSet 4 (eB dMod (eK bInt (aC (eB dMul (eV 4) (eB dAdd (eB dFdiv (eV 4) (eC (.int 1009))) (eC (.int 69621)))) aN)) (eC (.int 2147483647))))
    (sSeq (sSub (eV 0) (eC (.str "seed")) (eV 4))
    (sSeq (sSet 4 (eB dMod (eK bInt (aC (eB dMul (eV 4) (eB dAdd (eB dFdiv (eV 4) (eC (.int 2003))) (eC (.int 40692)))) aN)) (eC (.int 2147483399))))
    (sRet (eB dMod (eK bInt (aC (eB dFdiv (eV 4) (eC (.int 16))) aN)) (eV 1)))))))))))))
noncomputable def F__law_draw : List D → Sto → Res D := fnS 5 G__law_draw
noncomputable def G__law_value : Sx := (sSeq (sSet 1 (eC (.int 0)))
    (sSeq (sFor (itR1 (aC (eK bLen (aC (eV 0) aN)) aN)) (.nm 2)
    (sSet 1 (eB dAdd (eB dMul (eV 1) (eC (.int 256))) (eB dIdx (eV 0) (eB dSub (eB dSub (eK bLen (aC (eV 0) aN)) (eC (.int 1))) (eV 2))))))
    (sRet (eV 1))))
noncomputable def F__law_value : List D → Sto → Res D := fnS 3 G__law_value
noncomputable def G_View_value_at : Sx := (sSeq (sSet 2 (eC (.int 0)))
    (sSeq (sFor (itRev (eK bList (aC (eM 14 "places_of" 2 F_View_places_of (eV 0) (aC (eV 1) aN)) aN))) (.nm 3)
    (sSet 2 (eB dAdd (eB dMul (eV 2) (eC (.int 256))) (eB dIdx (eU (fldD cs_cells "cells") (eV 0)) (eV 3)))))
    (sRet (eV 2))))
noncomputable def F_View_value_at : List D → Sto → Res D := fnS 4 G_View_value_at
noncomputable def G_View_listed : Sx := (sSeq (sDrop (eM 14 "check" 1 F_View_check (eV 0) aN))
    (sRet (eComp (itR1 (aC (eU (fldD cs_count "count") (eU (fldD cs_window "window") (eV 0))) aN)) (.nm 1) [1] bYes (eM 14 "value_at" 2 F_View_value_at (eV 0) (aC (eV 1) aN)))))
noncomputable def F_View_listed : List D → Sto → Res D := fnS 2 G_View_listed
noncomputable def G_View___eq__ : Sx := (sSeq (sIf (bOr (bNot (bE (eU (isiOwn 14 io_os_View) (eV 1)))) (bOr (bE (eU (fldD cs_closed "closed") (eV 0))) (bE (eU (fldD cs_closed "closed") (eV 1)))))
    (sRet (eC (.bl false)))
    sNext)
    (sRet (eAnd (eB dEqX (eU (fldD cs_size "size") (eV 0)) (eU (fldD cs_size "size") (eV 1))) (eB dEqX (eM 14 "listed" 1 F_View_listed (eV 0) aN) (eM 14 "listed" 1 F_View_listed (eV 1) aN)))))
noncomputable def F_View___eq__ : List D → Sto → Res D := fnS 2 G_View___eq__
noncomputable def G__law_flag : Sx := (sRet (eAnd (eU (isiTy .bool) (eV 0)) (eB dEqX (eV 0) (eV 1))))
noncomputable def F__law_flag : List D → Sto → Res D := fnS 2 G__law_flag
noncomputable def G_Store_listed : Sx := (sRet (eK bList (aC (eU (fldD cs_cells "cells") (eV 0)) aN)))
noncomputable def F_Store_listed : List D → Sto → Res D := fnS 1 G_Store_listed
noncomputable def G_View___len__ : Sx := (sSeq (sIf (bE (eU (fldD cs_closed "closed") (eV 0)))
    (sRaiseY 7)
    sNext)
    (sRet (eK bLen (aC (eComp (itR1 (aC (eU (fldD cs_count "count") (eU (fldD cs_window "window") (eV 0))) aN)) (.nm 1) [1] bYes (eV 1)) aN))))
noncomputable def F_View___len__ : List D → Sto → Res D := fnS 2 G_View___len__
noncomputable def G__law_first : Sx := (sSeq (sSubOwnX 14 F_View___setitem__ (eV 0) (eC (.int 0)) (eC (.int 7)))
    (sRet (eK mkL (aC (eV 0) (aC (eLenOwnX 14 F_View___len__ (aC (eV 0) aN)) aN)))))
noncomputable def F__law_first : List D → Sto → Res D := fnS 1 G__law_first
noncomputable def G_View_during__0 : Sx := (sSeq (sDrop (eM 14 "check" 1 F_View_check (eV 0) aN))
    (sRetFinX (eCallL 1 1 F__law_first (aC (eV 0) aN))
    (sFldP cs_closed "closed" (eV 0) (eC (.bl true)))))
noncomputable def F_View_during__0 : List D → Sto → Res D := fnS1 G_View_during__0
noncomputable def G__law_raises : Sx := (sSeq (sSubOwnX 14 F_View___setitem__ (eV 0) (eU dNeg (eC (.int 1))) (eC (.int 9)))
    (sRaiseY 1000))
noncomputable def F__law_raises : List D → Sto → Res D := fnS 1 G__law_raises
noncomputable def G_View_during__1 : Sx := (sSeq (sDrop (eM 14 "check" 1 F_View_check (eV 0) aN))
    (sRetFinX (eCallL 1 1 F__law_raises (aC (eV 0) aN))
    (sFldP cs_closed "closed" (eV 0) (eC (.bl true)))))
noncomputable def F_View_during__1 : List D → Sto → Res D := fnS1 G_View_during__1
noncomputable def G_Store_view : Sx := (sRet (eK (mkO 14 5 F_View___init__) (aC (eU (fldD cs_cells "cells") (eV 0)) (aC (eK (mkO 13 5 F_Window___init__) (aC (eC (.int 0)) (aC (eC (.int 1)) (aC (eK bLen (aC (eU (fldD cs_cells "cells") (eV 0)) aN)) (aC (eC (.int 1)) aN))))) (aC (eC (.bl false)) (aC (eU (fldD cs_lent_out "lent_out") (eV 0)) aN))))))
noncomputable def F_Store_view : List D → Sto → Res D := fnS 1 G_Store_view
noncomputable def G_Store_lent : Sx := (sRet (eK bLen (aC (eComp (itSeq (eU (fldD cs_lent_out "lent_out") (eV 0))) (.nm 1) [1] (bNot (bE (eU (fldD cs_closed "closed") (eV 1)))) (eV 1)) aN)))
noncomputable def F_Store_lent : List D → Sto → Res D := fnS 2 G_Store_lent
noncomputable def G_Store_check_free : Sx := (sIf (bE (eB dGt (eM 15 "lent" 1 F_Store_lent (eV 0) aN) (eC (.int 0))))
    (sRaiseY 6)
    sNext)
noncomputable def F_Store_check_free : List D → Sto → Res D := fnS 1 G_Store_check_free
noncomputable def G_Store_grow : Sx := (sIf (bE (eB dGt (eV 1) (eC (.int 0))))
    (sSeq (sDrop (eM 15 "check_free" 1 F_Store_check_free (eV 0) aN))
    (sDrop (eBm isLst mExtend (eU (fldD cs_cells "cells") (eV 0)) (aC (eB dMul (eK mkL (aC (eC (.int 0)) aN)) (eV 1)) aN))))
    sNext)
noncomputable def F_Store_grow : List D → Sto → Res D := fnS 2 G_Store_grow
noncomputable def G__law_grows : Sx := (sSeq (sSet 1 (eK (mkO 15 2 F_Store___init__) (aC (eK mkL (aC (eC (.int 1)) aN)) aN)))
    (sSeq (sSet 2 (eM 15 "view" 1 F_Store_view (eV 1) aN))
    (sDrop (eM 15 "grow" 2 F_Store_grow (eV 1) (aC (eC (.int 2)) aN)))))
noncomputable def F__law_grows : List D → Sto → Res D := fnS 3 G__law_grows
noncomputable def G_View_during__2 : Sx := (sSeq (sDrop (eM 14 "check" 1 F_View_check (eV 0) aN))
    (sRetFinX (eCallL 1 1 F__law_grows (aC (eV 0) aN))
    (sFldP cs_closed "closed" (eV 0) (eC (.bl true)))))
noncomputable def F_View_during__2 : List D → Sto → Res D := fnS1 G_View_during__2
noncomputable def G__law_during : Sx := (sSeq (sSet 2 (eC .non))
    (sSeq (sTryM 0 [(emT_Held, none, fun _ _ => (sSet 2 (eC (.str "held")))),
    (emT_KeyError, none, fun _ _ => (sSet 2 (eC (.str "key"))))]
    (sSet 2 (eMPick 14 "during" [F_View_during__0, F_View_during__1, F_View_during__2] (eV 0) (eV 1))))
    (sRet (eV 2))))
noncomputable def F__law_during : List D → Sto → Res D := fnS 3 G__law_during
noncomputable def G_View_alive : Sx := (sRet (eNot (eU (fldD cs_closed "closed") (eV 0))))
noncomputable def F_View_alive : List D → Sto → Res D := fnS 1 G_View_alive
noncomputable def G__law_gone : Sx := (sSeq (sSet 1 (eC (.bl false)))
    (sSeq (sTryOnly emT_Gone
    (sDrop (eM 14 "listed" 1 F_View_listed (eV 0) aN))
    (sSet 1 (eC (.bl true))))
    (sRet (eAnd (eV 1) (eNot (eProp 14 F_View_alive (eV 0)))))))
noncomputable def F__law_gone : List D → Sto → Res D := fnS 2 G__law_gone
noncomputable def G__law_deeds : Sx := (sSeq (sSet 4 (eM 15 "listed" 1 F_Store_listed (eV 1) aN))
    (sSeq (sSet 5 (eF 2 F__law_draw (aC (eV 0) (aC (eC (.int 3)) aN))))
    (sSeq (sSet 6 (eF 2 F__law_during (aC (eV 2) (aC (eV 5) aN))))
    (sSeq (sIf (bOr (bNot (bE (eF 1 F__law_gone (aC (eV 2) aN)))) (bE (eB (dOwn1 14 F_View___eq__) (eV 2) (eV 2))))
    (sRet (eC (.bl false)))
    sNext)
    (sSeq (sIf (bE (eB dEqX (eV 5) (eC (.int 0))))
    (sSeq (sSub (eV 4) (eB dIdx (eB dIdx (eV 3) (eC (.int 0))) (eC (.int 0))) (eC (.int 7)))
    (sSeq (sFor (itSeq (eSl (eB dIdx (eV 3) (eC (.int 0))) (pE (eC (.int 1))) pN)) (.nm 7)
    (sSub (eV 4) (eV 7) (eC (.int 0))))
    (sRet (eAnd (eB dEqX (eM 15 "listed" 1 F_Store_listed (eV 1) aN) (eV 4)) (eAnd (eU (isiTy .list) (eV 6)) (eB dEqX (eB dIdx (eV 6) (eC (.int 1))) (eK bLen (aC (eV 3) aN))))))))
    sNext)
    (sSeq (sIf (bE (eB dEqX (eV 5) (eC (.int 1))))
    (sSeq (sSub (eV 4) (eB dIdx (eB dIdx (eV 3) (eU dNeg (eC (.int 1)))) (eC (.int 0))) (eC (.int 9)))
    (sFor (itSeq (eSl (eB dIdx (eV 3) (eU dNeg (eC (.int 1)))) (pE (eC (.int 1))) pN)) (.nm 7)
    (sSub (eV 4) (eV 7) (eC (.int 0)))))
    sNext)
    (sRet (eAnd (eB dEqX (eM 15 "listed" 1 F_Store_listed (eV 1) aN) (eV 4)) (eB dEqX (eV 6) (eB dIdx (eK mkT (aC (eC .non) (aC (eC (.str "key")) (aC (eC (.str "held")) aN)))) (eV 5)))))))))))
noncomputable def F__law_deeds : List D → Sto → Res D := fnS 8 G__law_deeds
noncomputable def G_Form___mul__ : Sx := (sRet (eK (mkO 11 3 F_Form___init__) (aC (eB dMul (eU (fldD cs_alpha "alpha") (eV 0)) (eV 1)) (aC (eB dMul (eU (fldD cs_beta "beta") (eV 0)) (eV 1)) aN))))
noncomputable def F_Form___mul__ : List D → Sto → Res D := fnS 2 G_Form___mul__
noncomputable def G_cast_count : Sx := (sSeq (sIf (bAnd (bE (eB dNeX (eV 1) (eV 3))) (bNot (bE (eM 12 "below" 3 F_Track_below (eV 0) (aC (eV 2) (aC (eF 1 F_number_form (aC (eC (.int 2)) aN)) aN))))))
    (sRet (eC .non))
    sNext)
    (sSeq (sIf (bAnd (bE (eB dNeX (eV 3) (eC (.int 1)))) (bE (eB dNeX (eV 4) (eC (.int 1)))))
    (sRet (eC .non))
    sNext)
    (sSeq (sSet 5 (eM 12 "divide" 3 F_Track_divide (eV 0) (aC (eB (dOwnI 11 F_Form___mul__) (eV 2) (eV 3)) (aC (eV 4) aN))))
    (sSeq (sIf (bE (eB dNeX (eB dIdx (eV 5) (eC (.int 1))) (eC (.int 0))))
    (sRet (eC .non))
    sNext)
    (sRet (eB dIdx (eV 5) (eC (.int 0))))))))
noncomputable def F_cast_count : List D → Sto → Res D := fnS 6 G_cast_count
noncomputable def G_Window_recast : Sx := (sSeq (sSet 2 (eF 5 F_cast_count (aC (eK (mkO 12 1 F_Track___init__) aN) (aC (eU (fldD cs_step "step") (eV 0)) (aC (eF 1 F_number_form (aC (eU (fldD cs_count "count") (eV 0)) aN)) (aC (eU (fldD cs_size "size") (eV 0)) (aC (eV 1) aN)))))))
    (sSeq (sIf (bE (eB dIsN (eV 2) (eC .non)))
    (sRaiseY 3)
    sNext)
    (sRet (eK (mkO 13 5 F_Window___init__) (aC (eU (fldD cs_start "start") (eV 0)) (aC (eV 1) (aC (eU (fldD cs_alpha "alpha") (eV 2)) (aC (eV 1) aN))))))))
noncomputable def F_Window_recast : List D → Sto → Res D := fnS 3 G_Window_recast
noncomputable def G_View_cast : Sx := (sSeq (sDrop (eM 14 "check" 1 F_View_check (eV 0) aN))
    (sRet (eK (mkO 14 5 F_View___init__) (aC (eU (fldD cs_cells "cells") (eV 0)) (aC (eM 13 "recast" 2 F_Window_recast (eU (fldD cs_window "window") (eV 0)) (aC (eV 1) aN)) (aC (eU (fldD cs_locked "locked") (eV 0)) (aC (eU (fldD cs_lent_out "lent_out") (eV 0)) aN)))))))
noncomputable def F_View_cast : List D → Sto → Res D := fnS 2 G_View_cast
noncomputable def FR__law_same : Nat → List D → Sto → Res D
  | 0 => fun _ _ => .no
  | n + 1 => fnS 3 (sSeq (sIf (bOr (bE (eU (isiTy .tuple) (eV 1))) (bE (eU (isiTy .list) (eV 1))))
    (sSeq (sIf (bE (eB dNeX (eU (isiTy .tuple) (eV 0)) (eU (isiTy .tuple) (eV 1))))
    (sRet (eC (.bl false)))
    sNext)
    (sSeq (sIf (bOr (bE (eB dNeX (eU (isiTy .list) (eV 0)) (eU (isiTy .list) (eV 1)))) (bE (eB dNeX (eK bLen (aC (eV 0) aN)) (eK bLen (aC (eV 1) aN)))))
    (sRet (eC (.bl false)))
    sNext)
    (sRet (eK bAll (aC (eComp (itR1 (aC (eK bLen (aC (eV 1) aN)) aN)) (.nm 2) [2] bYes (eF 2 (FR__law_same n) (aC (eB dIdx (eV 0) (eV 2)) (aC (eB dIdx (eV 1) (eV 2)) aN)))) aN)))))
    sNext)
    (sSeq (sIf (bE (eB dIsN (eV 1) (eC .non)))
    (sRet (eB dIsN (eV 0) (eC .non)))
    sNext)
    (sSeq (sIf (bE (eU (isiTy .str) (eV 1)))
    (sRet (eAnd (eU (isiTy .str) (eV 0)) (eB dEqX (eV 0) (eV 1))))
    sNext)
    (sRet (eAnd (eU (isiTy .int) (eV 0)) (eAnd (eNot (eU (isiTy .bool) (eV 0))) (eB dEqX (eV 0) (eV 1))))))))
noncomputable def F__law_same : List D → Sto → Res D := FR__law_same 12
noncomputable def G_View___getitem__ : Sx := (sSeq (sDrop (eM 14 "check" 1 F_View_check (eV 0) aN))
    (sRet (eM 14 "value_at" 2 F_View_value_at (eV 0) (aC (eM 14 "index_of" 2 F_View_index_of (eV 0) (aC (eV 1) aN)) aN))))
noncomputable def F_View___getitem__ : List D → Sto → Res D := fnS 2 G_View___getitem__
noncomputable def G_View___contains__ : Sx := (sSeq (sSet 2 (eM 14 "listed" 1 F_View_listed (eV 0) aN))
    (sRet (eAnd (eF 3 F_is_integer (aC (eV 1) (aC (eC (.int 0)) (aC (eC .non) aN)))) (eB dInD (eV 1) (eV 2)))))
noncomputable def F_View___contains__ : List D → Sto → Res D := fnS 3 G_View___contains__
noncomputable def G_law : Sx := (sSeq (sSet 1 (eDisp [("cells", (eSl (eK bList (aC (eV 0) aN)) pN (pE (eC (.int 63))))), ("at", (eC (.int 0))), ("left", (eC (.int 0))), ("turn", (eC (.int 0))), ("seed", (eC (.int 1)))]))
    (sSeq (sSet 2 (eB dIdx (eK mkT (aC (eC (.int 1)) (aC (eC (.int 2)) (aC (eC (.int 4)) aN)))) (eF 2 F__law_draw (aC (eV 1) (aC (eC (.int 3)) aN)))))
    (sSeq (sSet 3 (eComp (itR1 (aC (eB dAdd (eC (.int 4)) (eB dMul (eC (.int 4)) (eF 2 F__law_draw (aC (eV 1) (aC (eC (.int 6)) aN))))) aN)) (.nm 15) [15] bYes (eF 2 F__law_draw (aC (eV 1) (aC (eC (.int 256)) aN)))))
    (sSeq (sSet 4 (eB dIdx (eK mkT (aC (eC (.int 1)) (aC (eC (.int 2)) (aC (eU dNeg (eC (.int 1))) (aC (eU dNeg (eC (.int 2))) (aC (eC (.int 3)) (aC (eU dNeg (eC (.int 3))) aN))))))) (eF 2 F__law_draw (aC (eV 1) (aC (eC (.int 6)) aN)))))
    (sSeq (sSet 5 (eK (mkO 15 2 F_Store___init__) (aC (eV 3) aN)))
    (sSeq (sSet 6 (eK (mkO 15 2 F_Store___init__) (aC (eV 3) aN)))
    (sSeq (sSet 7 (eMN 14 "sliced" 1 1 (fun us ws => us ++ [.non] ++ [.non] ++ ((ws.drop 0).take 1)) F_View_sliced (eM 14 "cast" 2 F_View_cast (eM 15 "view" 1 F_Store_view (eV 5) aN) (aC (eV 2) aN)) aN (aC (eV 4) aN)))
    (sSeq (sSet 8 (eMN 14 "sliced" 3 1 (fun us ws => us ++ ((ws.drop 0).take 1)) F_View_sliced (eM 14 "cast" 2 F_View_cast (eM 15 "view" 1 F_Store_view (eV 6) aN) (aC (eV 2) aN)) (aC (eC .non) (aC (eC .non) aN)) (aC (eV 4) aN)))
    (sSeq (sSet 9 (eSl3 (eComp (itR3 (aC (eC (.int 0)) (aC (eK bLen (aC (eV 3) aN)) (aC (eV 2) aN)))) (.nm 15) [15] bYes (eLstRg (eV 15) (eB dAdd (eV 15) (eV 2)))) pN pN (pE (eV 4))))
    (sSeq (sSet 10 (eComp (itSeq (eV 9)) (.nm 16) [16] bYes (eF 1 F__law_value (aC (eComp (itSeq (eV 16)) (.nm 15) [15] bYes (eB dIdx (eV 3) (eV 15))) aN))))
    (sSeq (sIf (bOr (bNot (bE (eF 2 F__law_same (aC (eM 14 "listed" 1 F_View_listed (eV 7) aN) (aC (eV 10) aN))))) (bOr (bNot (bE (eB (dOwn1 14 F_View___eq__) (eV 7) (eV 8)))) (bOr (bE (eB (dOwn1 14 F_View___eq__) (eV 7) (eC (.int 5)))) (bE (eB (dOwn1 14 F_View___eq__) (eV 7) (eV 10))))))
    (sRet (eC (.bl false)))
    sNext)
    (sSeq (sSet 11 (eF 2 F__law_draw (aC (eV 1) (aC (eK bLen (aC (eV 9) aN)) aN))))
    (sSeq (sSet 12 (eIf (bE (eB dEqX (eV 2) (eC (.int 4)))) (eF 2 F__law_draw (aC (eV 1) (aC (eB dPow (eC (.int 256)) (eC (.int 4))) aN))) (eF 2 F__law_draw (aC (eV 1) (aC (eB dMul (eC (.int 256)) (eB dAdd (eC (.int 1)) (eB dMul (eC (.int 255)) (eB dSub (eV 2) (eC (.int 1)))))) aN)))))
    (sSeq (sSet 13 (eK bList (aC (eV 3) aN)))
    (sSeq (sSet 14 (eV 12))
    (sSeq (sFor (itSeq (eB dIdx (eV 9) (eV 11))) (.nm 15)
    (sSeq (sSub (eV 13) (eV 15) (eB dMod (eK bInt (aC (eV 14) aN)) (eC (.int 256))))
    (sSet 14 (eB dFdiv (eV 14) (eC (.int 256))))))
    (sSeq (sSubOwnX 14 F_View___setitem__ (eV 7) (eB dSub (eV 11) (eB dMul (eK bLen (aC (eV 9) aN)) (eF 2 F__law_draw (aC (eV 1) (aC (eC (.int 2)) aN))))) (eV 12))
    (sSeq (sIf (bOr (bNot (bE (eF 2 F__law_same (aC (eM 15 "listed" 1 F_Store_listed (eV 5) aN) (aC (eV 13) aN))))) (bNot (bE (eF 2 F__law_same (aC (eIxOwnX 14 F_View___getitem__ (eV 7) (eV 11)) (aC (eV 12) aN))))))
    (sRet (eC (.bl false)))
    sNext)
    (sSeq (sIf (bOr (bNot (bE (eF 2 F__law_flag (aC (eInOwnX 14 F_View___contains__ (eV 12) (eV 7)) (aC (eC (.bl true)) aN))))) (bNot (bE (eF 2 F__law_flag (aC (eInOwnX 14 F_View___contains__ (eV 12) (eV 8)) (aC (eB dInD (eV 12) (eV 10)) aN))))))
    (sRet (eC (.bl false)))
    sNext)
    (sSeq (sIf (bNot (bE (eF 2 F__law_flag (aC (eB (dOwn1 14 F_View___eq__) (eV 7) (eV 8)) (aC (eB dEqX (eV 13) (eV 3)) aN)))))
    (sRet (eC (.bl false)))
    sNext)
    (sRet (eAnd (eF 4 F__law_deeds (aC (eV 1) (aC (eV 5) (aC (eV 7) (aC (eV 9) aN))))) (eAnd (eNot (eF 1 F__law_gone (aC (eV 8) aN))) (eNot (eB (dOwn1 14 F_View___eq__) (eV 8) (eV 7))))))))))))))))))))))))))
noncomputable def F_law : List D → Sto → Res D := fnS 17 G_law
end LbW
namespace LbW
open PySem PySem.Spec PyProof.Rows L2 Lb Pu
def top (i : Nat) : Stmt := PySem.Challenge.pw_lentbytes_k72_values_and_deeds_of_live_v.main.body.getD i (.Pass ⟨0, 0, 0, 0⟩)
abbrev s_Form___init__ : Stmt := inClass (top 14) 0
abbrev s_Form___add__ : Stmt := inClass (top 14) 3
abbrev s_Form___sub__ : Stmt := inClass (top 14) 4
abbrev s_Form___mul__ : Stmt := inClass (top 14) 6
abbrev s_number_form : Stmt := top 15
abbrev s_Track___init__ : Stmt := inClass (top 16) 0
abbrev s_Track_narrow : Stmt := inClass (top 16) 1
abbrev s_Track_below : Stmt := inClass (top 16) 2
abbrev s_Track_divide : Stmt := inClass (top 16) 4
abbrev s_is_integer : Stmt := top 18
abbrev s_limited : Stmt := top 19
abbrev s_from_end : Stmt := top 20
abbrev s_chosen_cells : Stmt := top 21
abbrev s_cast_count : Stmt := top 22
abbrev s_Window___init__ : Stmt := inClass (top 23) 0
abbrev s_Window_sliced : Stmt := inClass (top 23) 2
abbrev s_Window_recast : Stmt := inClass (top 23) 3
abbrev s_View___init__ : Stmt := inClass (top 27) 0
abbrev s_View_alive : Stmt := inClass (top 27) 1
abbrev s_View_check : Stmt := inClass (top 27) 2
abbrev s_View_places_of : Stmt := inClass (top 27) 3
abbrev s_View_value_at : Stmt := inClass (top 27) 5
abbrev s_View_give : Stmt := inClass (top 27) 6
abbrev s_View_index_of : Stmt := inClass (top 27) 7
abbrev s_View_sliced : Stmt := inClass (top 27) 8
abbrev s_View_cast : Stmt := inClass (top 27) 9
abbrev s_View_listed : Stmt := inClass (top 27) 12
abbrev s_View_during : Stmt := inClass (top 27) 15
abbrev s_View___len__ : Stmt := inClass (top 27) 16
abbrev s_View___getitem__ : Stmt := inClass (top 27) 17
abbrev s_View___setitem__ : Stmt := inClass (top 27) 18
abbrev s_View___contains__ : Stmt := inClass (top 27) 20
abbrev s_View___eq__ : Stmt := inClass (top 27) 21
abbrev s_Store___init__ : Stmt := inClass (top 28) 0
abbrev s_Store_listed : Stmt := inClass (top 28) 2
abbrev s_Store_lent : Stmt := inClass (top 28) 3
abbrev s_Store_check_free : Stmt := inClass (top 28) 4
abbrev s_Store_view : Stmt := inClass (top 28) 5
abbrev s_Store_grow : Stmt := inClass (top 28) 6
abbrev s__law_same : Stmt := top 30
abbrev s__law_draw : Stmt := top 31
abbrev s__law_value : Stmt := top 32
abbrev s__law_first : Stmt := top 33
abbrev s__law_raises : Stmt := top 34
abbrev s__law_grows : Stmt := top 35
abbrev s__law_during : Stmt := top 36
abbrev s__law_flag : Stmt := top 37
abbrev s__law_gone : Stmt := top 38
abbrev s__law_deeds : Stmt := top 39
abbrev s_law : Stmt := top 40
abbrev s_BadBytes___init__ : Stmt := inClass (top 7) 0
abbrev s_BadIndex___init__ : Stmt := inClass (top 6) 0
abbrev s_BadNumber___init__ : Stmt := inClass (top 3) 0
abbrev s_BadValue___init__ : Stmt := inClass (top 11) 0
abbrev s_BadWindow___init__ : Stmt := inClass (top 4) 0
structure Ad where
  c_BadNumber : Addr
  c_BadWindow : Addr
  c_BadCast : Addr
  c_BadIndex : Addr
  c_BadBytes : Addr
  c_Held : Addr
  c_Gone : Addr
  c_Locked : Addr
  c_BadValue : Addr
  c_Form : Addr
  c_Track : Addr
  c_Window : Addr
  c_View : Addr
  c_Store : Addr
  f_Form___init__ : Addr
  d_Form___init__ : FuncData
  f_Form___add__ : Addr
  d_Form___add__ : FuncData
  f_Form___sub__ : Addr
  d_Form___sub__ : FuncData
  f_Form___mul__ : Addr
  d_Form___mul__ : FuncData
  f_number_form : Addr
  d_number_form : FuncData
  f_Track___init__ : Addr
  d_Track___init__ : FuncData
  f_Track_narrow : Addr
  d_Track_narrow : FuncData
  f_Track_below : Addr
  d_Track_below : FuncData
  f_Track_divide : Addr
  d_Track_divide : FuncData
  f_is_integer : Addr
  d_is_integer : FuncData
  f_limited : Addr
  d_limited : FuncData
  f_from_end : Addr
  d_from_end : FuncData
  f_chosen_cells : Addr
  d_chosen_cells : FuncData
  f_cast_count : Addr
  d_cast_count : FuncData
  f_Window___init__ : Addr
  d_Window___init__ : FuncData
  f_Window_sliced : Addr
  d_Window_sliced : FuncData
  f_Window_recast : Addr
  d_Window_recast : FuncData
  f_View___init__ : Addr
  d_View___init__ : FuncData
  f_View_alive : Addr
  d_View_alive : FuncData
  f_View_check : Addr
  d_View_check : FuncData
  f_View_places_of : Addr
  d_View_places_of : FuncData
  f_View_value_at : Addr
  d_View_value_at : FuncData
  f_View_give : Addr
  d_View_give : FuncData
  f_View_index_of : Addr
  d_View_index_of : FuncData
  f_View_sliced : Addr
  d_View_sliced : FuncData
  f_View_cast : Addr
  d_View_cast : FuncData
  f_View_listed : Addr
  d_View_listed : FuncData
  f_View_during : Addr
  d_View_during : FuncData
  f_View___len__ : Addr
  d_View___len__ : FuncData
  f_View___getitem__ : Addr
  d_View___getitem__ : FuncData
  f_View___setitem__ : Addr
  d_View___setitem__ : FuncData
  f_View___contains__ : Addr
  d_View___contains__ : FuncData
  f_View___eq__ : Addr
  d_View___eq__ : FuncData
  f_Store___init__ : Addr
  d_Store___init__ : FuncData
  f_Store_listed : Addr
  d_Store_listed : FuncData
  f_Store_lent : Addr
  d_Store_lent : FuncData
  f_Store_check_free : Addr
  d_Store_check_free : FuncData
  f_Store_view : Addr
  d_Store_view : FuncData
  f_Store_grow : Addr
  d_Store_grow : FuncData
  f__law_same : Addr
  d__law_same : FuncData
  f__law_draw : Addr
  d__law_draw : FuncData
  f__law_value : Addr
  d__law_value : FuncData
  f__law_first : Addr
  d__law_first : FuncData
  f__law_raises : Addr
  d__law_raises : FuncData
  f__law_grows : Addr
  d__law_grows : FuncData
  f__law_during : Addr
  d__law_during : FuncData
  f__law_flag : Addr
  d__law_flag : FuncData
  f__law_gone : Addr
  d__law_gone : FuncData
  f__law_deeds : Addr
  d__law_deeds : FuncData
  f_law : Addr
  d_law : FuncData
  k_TOPS : Addr
  f_BadNumber___init__ : Addr
  f_BadWindow___init__ : Addr
  f_BadIndex___init__ : Addr
  f_BadBytes___init__ : Addr
  f_BadValue___init__ : Addr
  p_View_alive : Addr
def clA (A : Ad) : Nat → Addr
  | 1 => A.c_BadNumber
  | 2 => A.c_BadWindow
  | 3 => A.c_BadCast
  | 4 => A.c_BadIndex
  | 5 => A.c_BadBytes
  | 6 => A.c_Held
  | 7 => A.c_Gone
  | 8 => A.c_Locked
  | 9 => A.c_BadValue
  | 11 => A.c_Form
  | 12 => A.c_Track
  | 13 => A.c_Window
  | 14 => A.c_View
  | 15 => A.c_Store
  | _ => 0
structure Txt (P : Program) (K : PySem.W.Frag) (mg : Str → Option Value) (A : Ad) : Prop where
  F_Form___init__ : Fun K "__init__" "Form.__init__" s_Form___init__ A.f_Form___init__ A.d_Form___init__
  b_Form___init__ : Binds K A.d_Form___init__ ["self", "alpha", "beta"] []
  mt_Form___init__ : Meth K A.c_Form "__init__" A.f_Form___init__
  F_Form___add__ : Fun K "__add__" "Form.__add__" s_Form___add__ A.f_Form___add__ A.d_Form___add__
  b_Form___add__ : Binds K A.d_Form___add__ ["self", "other"] []
  mt_Form___add__ : Meth K A.c_Form "__add__" A.f_Form___add__
  F_Form___sub__ : Fun K "__sub__" "Form.__sub__" s_Form___sub__ A.f_Form___sub__ A.d_Form___sub__
  b_Form___sub__ : Binds K A.d_Form___sub__ ["self", "other"] []
  mt_Form___sub__ : Meth K A.c_Form "__sub__" A.f_Form___sub__
  F_Form___mul__ : Fun K "__mul__" "Form.__mul__" s_Form___mul__ A.f_Form___mul__ A.d_Form___mul__
  b_Form___mul__ : Binds K A.d_Form___mul__ ["self", "number"] []
  mt_Form___mul__ : Meth K A.c_Form "__mul__" A.f_Form___mul__
  F_number_form : Fun K "number_form" "number_form" s_number_form A.f_number_form A.d_number_form
  b_number_form : Binds K A.d_number_form ["number"] []
  g_number_form : mg "number_form" = some (.ref A.f_number_form)
  kp_number_form : PySem.W.keepIn K (.ref A.f_number_form) = true
  F_Track___init__ : Fun K "__init__" "Track.__init__" s_Track___init__ A.f_Track___init__ A.d_Track___init__
  b_Track___init__ : Binds K A.d_Track___init__ ["self"] []
  mt_Track___init__ : Meth K A.c_Track "__init__" A.f_Track___init__
  F_Track_narrow : Fun K "narrow" "Track.narrow" s_Track_narrow A.f_Track_narrow A.d_Track_narrow
  b_Track_narrow : Binds K A.d_Track_narrow ["self", "last"] []
  mt_Track_narrow : Meth K A.c_Track "narrow" A.f_Track_narrow
  F_Track_below : Fun K "below" "Track.below" s_Track_below A.f_Track_below A.d_Track_below
  b_Track_below : Binds K A.d_Track_below ["self", "f", "g"] []
  mt_Track_below : Meth K A.c_Track "below" A.f_Track_below
  F_Track_divide : Fun K "divide" "Track.divide" s_Track_divide A.f_Track_divide A.d_Track_divide
  b_Track_divide : Binds K A.d_Track_divide ["self", "f", "number"] []
  mt_Track_divide : Meth K A.c_Track "divide" A.f_Track_divide
  F_is_integer : Fun K "is_integer" "is_integer" s_is_integer A.f_is_integer A.d_is_integer
  b_is_integer : Binds K A.d_is_integer ["value", "low", "high"] []
  g_is_integer : mg "is_integer" = some (.ref A.f_is_integer)
  kp_is_integer : PySem.W.keepIn K (.ref A.f_is_integer) = true
  F_limited : Fun K "limited" "limited" s_limited A.f_limited A.d_limited
  b_limited : Binds K A.d_limited ["track", "index", "low", "high"] []
  g_limited : mg "limited" = some (.ref A.f_limited)
  kp_limited : PySem.W.keepIn K (.ref A.f_limited) = true
  F_from_end : Fun K "from_end" "from_end" s_from_end A.f_from_end A.d_from_end
  b_from_end : Binds K A.d_from_end ["track", "index", "count"] []
  g_from_end : mg "from_end" = some (.ref A.f_from_end)
  kp_from_end : PySem.W.keepIn K (.ref A.f_from_end) = true
  F_chosen_cells : Fun K "chosen_cells" "chosen_cells" s_chosen_cells A.f_chosen_cells A.d_chosen_cells
  b_chosen_cells : Binds K A.d_chosen_cells ["track", "count", "first", "last", "step"] []
  g_chosen_cells : mg "chosen_cells" = some (.ref A.f_chosen_cells)
  kp_chosen_cells : PySem.W.keepIn K (.ref A.f_chosen_cells) = true
  F_cast_count : Fun K "cast_count" "cast_count" s_cast_count A.f_cast_count A.d_cast_count
  b_cast_count : Binds K A.d_cast_count ["track", "step", "count", "size", "new_size"] []
  g_cast_count : mg "cast_count" = some (.ref A.f_cast_count)
  kp_cast_count : PySem.W.keepIn K (.ref A.f_cast_count) = true
  F_Window___init__ : Fun K "__init__" "Window.__init__" s_Window___init__ A.f_Window___init__ A.d_Window___init__
  b_Window___init__ : Binds K A.d_Window___init__ ["self", "start", "step", "count", "size"] []
  mt_Window___init__ : Meth K A.c_Window "__init__" A.f_Window___init__
  F_Window_sliced : FunD K "sliced" "Window.sliced" (defArgs s_Window_sliced) (defBody s_Window_sliced) (defScope s_Window_sliced) [.non, .non, .non] [] A.f_Window_sliced A.d_Window_sliced
  mt_Window_sliced : Meth K A.c_Window "sliced" A.f_Window_sliced
  F_Window_recast : Fun K "recast" "Window.recast" s_Window_recast A.f_Window_recast A.d_Window_recast
  b_Window_recast : Binds K A.d_Window_recast ["self", "size"] []
  mt_Window_recast : Meth K A.c_Window "recast" A.f_Window_recast
  F_View___init__ : Fun K "__init__" "View.__init__" s_View___init__ A.f_View___init__ A.d_View___init__
  b_View___init__ : Binds K A.d_View___init__ ["self", "cells", "window", "locked", "lent_out"] []
  mt_View___init__ : Meth K A.c_View "__init__" A.f_View___init__
  F_View_alive : Fun K "alive" "View.alive" s_View_alive A.f_View_alive A.d_View_alive
  b_View_alive : Binds K A.d_View_alive ["self"] []
  pr_View_alive : PropOf K A.c_View "alive" A.p_View_alive A.f_View_alive
  F_View_check : Fun K "check" "View.check" s_View_check A.f_View_check A.d_View_check
  b_View_check : Binds K A.d_View_check ["self"] []
  mt_View_check : Meth K A.c_View "check" A.f_View_check
  F_View_places_of : Fun K "places_of" "View.places_of" s_View_places_of A.f_View_places_of A.d_View_places_of
  b_View_places_of : Binds K A.d_View_places_of ["self", "at"] []
  mt_View_places_of : Meth K A.c_View "places_of" A.f_View_places_of
  F_View_value_at : Fun K "value_at" "View.value_at" s_View_value_at A.f_View_value_at A.d_View_value_at
  b_View_value_at : Binds K A.d_View_value_at ["self", "at"] []
  mt_View_value_at : Meth K A.c_View "value_at" A.f_View_value_at
  F_View_give : Fun K "give" "View.give" s_View_give A.f_View_give A.d_View_give
  b_View_give : Binds K A.d_View_give ["self", "at", "value"] []
  mt_View_give : Meth K A.c_View "give" A.f_View_give
  F_View_index_of : Fun K "index_of" "View.index_of" s_View_index_of A.f_View_index_of A.d_View_index_of
  b_View_index_of : Binds K A.d_View_index_of ["self", "index"] []
  mt_View_index_of : Meth K A.c_View "index_of" A.f_View_index_of
  F_View_sliced : FunD K "sliced" "View.sliced" (defArgs s_View_sliced) (defBody s_View_sliced) (defScope s_View_sliced) [.non, .non] [("step", .non)] A.f_View_sliced A.d_View_sliced
  mt_View_sliced : Meth K A.c_View "sliced" A.f_View_sliced
  F_View_cast : Fun K "cast" "View.cast" s_View_cast A.f_View_cast A.d_View_cast
  b_View_cast : Binds K A.d_View_cast ["self", "size"] []
  mt_View_cast : Meth K A.c_View "cast" A.f_View_cast
  F_View_listed : Fun K "listed" "View.listed" s_View_listed A.f_View_listed A.d_View_listed
  b_View_listed : Binds K A.d_View_listed ["self"] []
  mt_View_listed : Meth K A.c_View "listed" A.f_View_listed
  F_View_during : Fun K "during" "View.during" s_View_during A.f_View_during A.d_View_during
  b_View_during : Binds K A.d_View_during ["self", "deed"] []
  mt_View_during : Meth K A.c_View "during" A.f_View_during
  F_View___len__ : Fun K "__len__" "View.__len__" s_View___len__ A.f_View___len__ A.d_View___len__
  b_View___len__ : Binds K A.d_View___len__ ["self"] []
  mt_View___len__ : Meth K A.c_View "__len__" A.f_View___len__
  F_View___getitem__ : Fun K "__getitem__" "View.__getitem__" s_View___getitem__ A.f_View___getitem__ A.d_View___getitem__
  b_View___getitem__ : Binds K A.d_View___getitem__ ["self", "index"] []
  mt_View___getitem__ : Meth K A.c_View "__getitem__" A.f_View___getitem__
  F_View___setitem__ : Fun K "__setitem__" "View.__setitem__" s_View___setitem__ A.f_View___setitem__ A.d_View___setitem__
  b_View___setitem__ : Binds K A.d_View___setitem__ ["self", "index", "value"] []
  mt_View___setitem__ : Meth K A.c_View "__setitem__" A.f_View___setitem__
  F_View___contains__ : Fun K "__contains__" "View.__contains__" s_View___contains__ A.f_View___contains__ A.d_View___contains__
  b_View___contains__ : Binds K A.d_View___contains__ ["self", "value"] []
  mt_View___contains__ : Meth K A.c_View "__contains__" A.f_View___contains__
  F_View___eq__ : Fun K "__eq__" "View.__eq__" s_View___eq__ A.f_View___eq__ A.d_View___eq__
  b_View___eq__ : Binds K A.d_View___eq__ ["self", "other"] []
  mt_View___eq__ : Meth K A.c_View "__eq__" A.f_View___eq__
  F_Store___init__ : Fun K "__init__" "Store.__init__" s_Store___init__ A.f_Store___init__ A.d_Store___init__
  b_Store___init__ : Binds K A.d_Store___init__ ["self", "values"] []
  mt_Store___init__ : Meth K A.c_Store "__init__" A.f_Store___init__
  F_Store_listed : Fun K "listed" "Store.listed" s_Store_listed A.f_Store_listed A.d_Store_listed
  b_Store_listed : Binds K A.d_Store_listed ["self"] []
  mt_Store_listed : Meth K A.c_Store "listed" A.f_Store_listed
  F_Store_lent : Fun K "lent" "Store.lent" s_Store_lent A.f_Store_lent A.d_Store_lent
  b_Store_lent : Binds K A.d_Store_lent ["self"] []
  mt_Store_lent : Meth K A.c_Store "lent" A.f_Store_lent
  F_Store_check_free : Fun K "check_free" "Store.check_free" s_Store_check_free A.f_Store_check_free A.d_Store_check_free
  b_Store_check_free : Binds K A.d_Store_check_free ["self"] []
  mt_Store_check_free : Meth K A.c_Store "check_free" A.f_Store_check_free
  F_Store_view : Fun K "view" "Store.view" s_Store_view A.f_Store_view A.d_Store_view
  b_Store_view : Binds K A.d_Store_view ["self"] []
  mt_Store_view : Meth K A.c_Store "view" A.f_Store_view
  F_Store_grow : Fun K "grow" "Store.grow" s_Store_grow A.f_Store_grow A.d_Store_grow
  b_Store_grow : Binds K A.d_Store_grow ["self", "count"] []
  mt_Store_grow : Meth K A.c_Store "grow" A.f_Store_grow
  F__law_same : Fun K "_law_same" "_law_same" s__law_same A.f__law_same A.d__law_same
  b__law_same : Binds K A.d__law_same ["_law_told", "_law_due"] []
  g__law_same : mg "_law_same" = some (.ref A.f__law_same)
  kp__law_same : PySem.W.keepIn K (.ref A.f__law_same) = true
  F__law_draw : Fun K "_law_draw" "_law_draw" s__law_draw A.f__law_draw A.d__law_draw
  b__law_draw : Binds K A.d__law_draw ["_law_pool", "_law_many"] []
  g__law_draw : mg "_law_draw" = some (.ref A.f__law_draw)
  kp__law_draw : PySem.W.keepIn K (.ref A.f__law_draw) = true
  F__law_value : Fun K "_law_value" "_law_value" s__law_value A.f__law_value A.d__law_value
  b__law_value : Binds K A.d__law_value ["_law_parts"] []
  g__law_value : mg "_law_value" = some (.ref A.f__law_value)
  kp__law_value : PySem.W.keepIn K (.ref A.f__law_value) = true
  F__law_first : Fun K "_law_first" "_law_first" s__law_first A.f__law_first A.d__law_first
  b__law_first : Binds K A.d__law_first ["_law_view"] []
  g__law_first : mg "_law_first" = some (.ref A.f__law_first)
  kp__law_first : PySem.W.keepIn K (.ref A.f__law_first) = true
  F__law_raises : Fun K "_law_raises" "_law_raises" s__law_raises A.f__law_raises A.d__law_raises
  b__law_raises : Binds K A.d__law_raises ["_law_view"] []
  g__law_raises : mg "_law_raises" = some (.ref A.f__law_raises)
  kp__law_raises : PySem.W.keepIn K (.ref A.f__law_raises) = true
  F__law_grows : Fun K "_law_grows" "_law_grows" s__law_grows A.f__law_grows A.d__law_grows
  b__law_grows : Binds K A.d__law_grows ["_law_view"] []
  g__law_grows : mg "_law_grows" = some (.ref A.f__law_grows)
  kp__law_grows : PySem.W.keepIn K (.ref A.f__law_grows) = true
  F__law_during : Fun K "_law_during" "_law_during" s__law_during A.f__law_during A.d__law_during
  b__law_during : Binds K A.d__law_during ["_law_view", "_law_way"] []
  g__law_during : mg "_law_during" = some (.ref A.f__law_during)
  kp__law_during : PySem.W.keepIn K (.ref A.f__law_during) = true
  F__law_flag : Fun K "_law_flag" "_law_flag" s__law_flag A.f__law_flag A.d__law_flag
  b__law_flag : Binds K A.d__law_flag ["_law_flag_here", "_law_due"] []
  g__law_flag : mg "_law_flag" = some (.ref A.f__law_flag)
  kp__law_flag : PySem.W.keepIn K (.ref A.f__law_flag) = true
  F__law_gone : Fun K "_law_gone" "_law_gone" s__law_gone A.f__law_gone A.d__law_gone
  b__law_gone : Binds K A.d__law_gone ["_law_view"] []
  g__law_gone : mg "_law_gone" = some (.ref A.f__law_gone)
  kp__law_gone : PySem.W.keepIn K (.ref A.f__law_gone) = true
  F__law_deeds : Fun K "_law_deeds" "_law_deeds" s__law_deeds A.f__law_deeds A.d__law_deeds
  b__law_deeds : Binds K A.d__law_deeds ["_law_pool", "_law_store", "_law_view", "_law_cells"] []
  g__law_deeds : mg "_law_deeds" = some (.ref A.f__law_deeds)
  kp__law_deeds : PySem.W.keepIn K (.ref A.f__law_deeds) = true
  F_law : Fun K "law" "law" s_law A.f_law A.d_law
  b_law : Binds K A.d_law ["_law_script"] []
  g_law : mg "law" = some (.ref A.f_law)
  kp_law : PySem.W.keepIn K (.ref A.f_law) = true
  g_BadNumber : mg "BadNumber" = some (.ref A.c_BadNumber)
  g_BadWindow : mg "BadWindow" = some (.ref A.c_BadWindow)
  g_BadCast : mg "BadCast" = some (.ref A.c_BadCast)
  g_BadIndex : mg "BadIndex" = some (.ref A.c_BadIndex)
  g_BadBytes : mg "BadBytes" = some (.ref A.c_BadBytes)
  g_Held : mg "Held" = some (.ref A.c_Held)
  g_Gone : mg "Gone" = some (.ref A.c_Gone)
  g_Locked : mg "Locked" = some (.ref A.c_Locked)
  g_BadValue : mg "BadValue" = some (.ref A.c_BadValue)
  g_Form : mg "Form" = some (.ref A.c_Form)
  cl_Form : Cls K A.c_Form
  mk_Form : Mk K A.c_Form A.f_Form___init__
  na_Form_alpha : NoAttr K A.c_Form "alpha"
  na_Form_beta : NoAttr K A.c_Form "beta"
  ic_Form : IsiC K A.c_Form
  g_Track : mg "Track" = some (.ref A.c_Track)
  cl_Track : Cls K A.c_Track
  mk_Track : Mk K A.c_Track A.f_Track___init__
  na_Track_until : NoAttr K A.c_Track "until"
  ic_Track : IsiC K A.c_Track
  g_Window : mg "Window" = some (.ref A.c_Window)
  cl_Window : Cls K A.c_Window
  mk_Window : Mk K A.c_Window A.f_Window___init__
  na_Window_start : NoAttr K A.c_Window "start"
  na_Window_step : NoAttr K A.c_Window "step"
  na_Window_count : NoAttr K A.c_Window "count"
  na_Window_size : NoAttr K A.c_Window "size"
  ic_Window : IsiC K A.c_Window
  g_View : mg "View" = some (.ref A.c_View)
  cl_View : Cls K A.c_View
  mk_View : Mk K A.c_View A.f_View___init__
  na_View_cells : NoAttr K A.c_View "cells"
  na_View_window : NoAttr K A.c_View "window"
  na_View_locked : NoAttr K A.c_View "locked"
  na_View_size : NoAttr K A.c_View "size"
  na_View_lent_out : NoAttr K A.c_View "lent_out"
  na_View_closed : NoAttr K A.c_View "closed"
  ic_View : IsiC K A.c_View
  g_Store : mg "Store" = some (.ref A.c_Store)
  cl_Store : Cls K A.c_Store
  mk_Store : Mk K A.c_Store A.f_Store___init__
  na_Store_cells : NoAttr K A.c_Store "cells"
  na_Store_lent_out : NoAttr K A.c_Store "lent_out"
  ic_Store : IsiC K A.c_Store
  x_BadNumber : XTxt P K mg "BadNumber" A.c_BadNumber A.f_BadNumber___init__ "number"
  x_BadWindow : XTxt P K mg "BadWindow" A.c_BadWindow A.f_BadWindow___init__ "part"
  x_BadIndex : XTxt P K mg "BadIndex" A.c_BadIndex A.f_BadIndex___init__ "index"
  x_BadBytes : XTxt P K mg "BadBytes" A.c_BadBytes A.f_BadBytes___init__ "index"
  x_BadValue : XTxt P K mg "BadValue" A.c_BadValue A.f_BadValue___init__ "value"
  y_BadCast : YTxt K mg "BadCast" A.c_BadCast
  y_Gone : YTxt K mg "Gone" A.c_Gone
  y_Held : YTxt K mg "Held" A.c_Held
  y_Locked : YTxt K mg "Locked" A.c_Locked
  em_BadNumber_Gone : PySem.W.exmOne K (.ref A.c_BadNumber) (.ref A.c_Gone) = some false
  em_BadWindow_Gone : PySem.W.exmOne K (.ref A.c_BadWindow) (.ref A.c_Gone) = some false
  em_BadCast_Gone : PySem.W.exmOne K (.ref A.c_BadCast) (.ref A.c_Gone) = some false
  em_BadIndex_Gone : PySem.W.exmOne K (.ref A.c_BadIndex) (.ref A.c_Gone) = some false
  em_BadBytes_Gone : PySem.W.exmOne K (.ref A.c_BadBytes) (.ref A.c_Gone) = some false
  em_Held_Gone : PySem.W.exmOne K (.ref A.c_Held) (.ref A.c_Gone) = some false
  em_Gone_Gone : PySem.W.exmOne K (.ref A.c_Gone) (.ref A.c_Gone) = some true
  em_Locked_Gone : PySem.W.exmOne K (.ref A.c_Locked) (.ref A.c_Gone) = some false
  em_BadValue_Gone : PySem.W.exmOne K (.ref A.c_BadValue) (.ref A.c_Gone) = some false
  em_KeyError_Gone : PySem.W.exmOne K (.type "KeyError") (.ref A.c_Gone) = some false
  em_BadNumber_Held : PySem.W.exmOne K (.ref A.c_BadNumber) (.ref A.c_Held) = some false
  em_BadWindow_Held : PySem.W.exmOne K (.ref A.c_BadWindow) (.ref A.c_Held) = some false
  em_BadCast_Held : PySem.W.exmOne K (.ref A.c_BadCast) (.ref A.c_Held) = some false
  em_BadIndex_Held : PySem.W.exmOne K (.ref A.c_BadIndex) (.ref A.c_Held) = some false
  em_BadBytes_Held : PySem.W.exmOne K (.ref A.c_BadBytes) (.ref A.c_Held) = some false
  em_Held_Held : PySem.W.exmOne K (.ref A.c_Held) (.ref A.c_Held) = some true
  em_Gone_Held : PySem.W.exmOne K (.ref A.c_Gone) (.ref A.c_Held) = some false
  em_Locked_Held : PySem.W.exmOne K (.ref A.c_Locked) (.ref A.c_Held) = some false
  em_BadValue_Held : PySem.W.exmOne K (.ref A.c_BadValue) (.ref A.c_Held) = some false
  em_KeyError_Held : PySem.W.exmOne K (.type "KeyError") (.ref A.c_Held) = some false
  em_BadNumber_KeyError : PySem.W.exmOne K (.ref A.c_BadNumber) (.type "KeyError") = some false
  em_BadWindow_KeyError : PySem.W.exmOne K (.ref A.c_BadWindow) (.type "KeyError") = some false
  em_BadCast_KeyError : PySem.W.exmOne K (.ref A.c_BadCast) (.type "KeyError") = some false
  em_BadIndex_KeyError : PySem.W.exmOne K (.ref A.c_BadIndex) (.type "KeyError") = some false
  em_BadBytes_KeyError : PySem.W.exmOne K (.ref A.c_BadBytes) (.type "KeyError") = some false
  em_Held_KeyError : PySem.W.exmOne K (.ref A.c_Held) (.type "KeyError") = some false
  em_Gone_KeyError : PySem.W.exmOne K (.ref A.c_Gone) (.type "KeyError") = some false
  em_Locked_KeyError : PySem.W.exmOne K (.ref A.c_Locked) (.type "KeyError") = some false
  em_BadValue_KeyError : PySem.W.exmOne K (.ref A.c_BadValue) (.type "KeyError") = some false
  io_View_NoneType : PySem.W.kitOne K (.type "NoneType") (.ref A.c_View) = some false
  io_View_int : PySem.W.kitOne K (.type "int") (.ref A.c_View) = some false
  io_View_bool : PySem.W.kitOne K (.type "bool") (.ref A.c_View) = some false
  io_View_str : PySem.W.kitOne K (.type "str") (.ref A.c_View) = some false
  io_View_tuple : PySem.W.kitOne K (.type "tuple") (.ref A.c_View) = some false
  io_View_list : PySem.W.kitOne K (.type "list") (.ref A.c_View) = some false
  io_View_dict : PySem.W.kitOne K (.type "dict") (.ref A.c_View) = some false
  sf_Form : PySem.W.selfFirst K A.c_Form = true
  os_Form : PySem.W.subIn K (.type "int") (.ref A.c_Form) = some false
  sf_View : PySem.W.selfFirst K A.c_View = true
  n_View : PySem.W.findIn K (.ref A.c_View) "__ne__" = some (some (.builtin "object.__ne__"))
  m_View : PySem.W.mroIn K A.c_View (.type "object") = some true
  oq_View : PySem.W.subIn K (.type "int") (.ref A.c_View) = some false
  ol_View : PySem.W.subIn K (.type "list") (.ref A.c_View) = some false
  o_Form___add__ : OwnDef K A.c_Form (PySem.dunder Operator.Add.info.2) A.f_Form___add__
  o_Form___mul__ : OwnDef K A.c_Form (PySem.dunder Operator.Mult.info.2) A.f_Form___mul__
  or_Form___mul__ : PySem.W.findIn K (.ref A.c_Form) (PySem.dunderR Operator.Mult.info.2) = some none
  oi_Form___mul__ : ∃ fo, PySem.W.findIn K (.type "int") (PySem.dunder Operator.Mult.info.2) = some fo
  oj_Form___mul__ : ∃ fo, PySem.W.findIn K (.type "int") (PySem.dunderR Operator.Mult.info.2) = some fo
  o_Form___sub__ : OwnDef K A.c_Form (PySem.dunder Operator.Sub.info.2) A.f_Form___sub__
  o_View___contains__ : OwnDef K A.c_View "__contains__" A.f_View___contains__
  o_View___eq__ : OwnDef K A.c_View "__eq__" A.f_View___eq__
  o_View___getitem__ : OwnDef K A.c_View "__getitem__" A.f_View___getitem__
  fi_View___getitem__ : PySem.W.fnIn K A.f_View___getitem__ = true
  o_View___len__ : OwnDef K A.c_View "__len__" A.f_View___len__
  o_View___setitem__ : OwnDef K A.c_View "__setitem__" A.f_View___setitem__
  ns_View : PySem.W.noSeq K A.c_View = true
  k_MOST_BYTES : ∃ u, mg "MOST_BYTES" = some u ∧ RelV (.int 10000) u
  k_TOPS : mg "TOPS" = some (.ref A.k_TOPS)
  q_TOPS : KDctI K A.k_TOPS [(1, 255), (2, 65535), (4, 4294967295)]
  z_KeyError : mg "KeyError" = none
  z_abs : mg "abs" = none
  z_all : mg "all" = none
  z_bool : mg "bool" = none
  z_enumerate : mg "enumerate" = none
  z_int : mg "int" = none
  z_isinstance : mg "isinstance" = none
  z_len : mg "len" = none
  z_list : mg "list" = none
  z_range : mg "range" = none
  z_reversed : mg "reversed" = none
  z_str : mg "str" = none
  z_tuple : mg "tuple" = none
section
variable {P : Program} {w : World} {K : PySem.W.Frag} {mg : Str → Option Value} {base : Heap} {A : Ad}
theorem em_Gone (T : Txt P K mg A) : ∀ C b, emT_Gone C = some b → PySem.W.exmOne K (exV (clA A) C) (exV (clA A) 7) = some b := by
  intro C b h
  unfold emT_Gone at h
  split at h <;> first | (cases h; exact T.em_BadNumber_Gone) | (cases h; exact T.em_BadWindow_Gone) | (cases h; exact T.em_BadCast_Gone) | (cases h; exact T.em_BadIndex_Gone) | (cases h; exact T.em_BadBytes_Gone) | (cases h; exact T.em_Held_Gone) | (cases h; exact T.em_Gone_Gone) | (cases h; exact T.em_Locked_Gone) | (cases h; exact T.em_BadValue_Gone) | (cases h; exact T.em_KeyError_Gone) | cases h
theorem em_Held (T : Txt P K mg A) : ∀ C b, emT_Held C = some b → PySem.W.exmOne K (exV (clA A) C) (exV (clA A) 6) = some b := by
  intro C b h
  unfold emT_Held at h
  split at h <;> first | (cases h; exact T.em_BadNumber_Held) | (cases h; exact T.em_BadWindow_Held) | (cases h; exact T.em_BadCast_Held) | (cases h; exact T.em_BadIndex_Held) | (cases h; exact T.em_BadBytes_Held) | (cases h; exact T.em_Held_Held) | (cases h; exact T.em_Gone_Held) | (cases h; exact T.em_Locked_Held) | (cases h; exact T.em_BadValue_Held) | (cases h; exact T.em_KeyError_Held) | cases h
theorem em_KeyError (T : Txt P K mg A) : ∀ C b, emT_KeyError C = some b → PySem.W.exmOne K (exV (clA A) C) (exV (clA A) 1000) = some b := by
  intro C b h
  unfold emT_KeyError at h
  split at h <;> first | (cases h; exact T.em_BadNumber_KeyError) | (cases h; exact T.em_BadWindow_KeyError) | (cases h; exact T.em_BadCast_KeyError) | (cases h; exact T.em_BadIndex_KeyError) | (cases h; exact T.em_BadBytes_KeyError) | (cases h; exact T.em_Held_KeyError) | (cases h; exact T.em_Gone_KeyError) | (cases h; exact T.em_Locked_KeyError) | (cases h; exact T.em_BadValue_KeyError) | (cases h; exact (by kernel_rfl)) | cases h
theorem fc_alpha (T : Txt P K mg A) : ∀ C ∈ cs_alpha, Cls K (clA A C) ∧ NoAttr K (clA A C) "alpha" := (List.forall_mem_cons.2 ⟨⟨T.cl_Form, T.na_Form_alpha⟩, (List.forall_mem_nil _)⟩)
theorem fc_beta (T : Txt P K mg A) : ∀ C ∈ cs_beta, Cls K (clA A C) ∧ NoAttr K (clA A C) "beta" := (List.forall_mem_cons.2 ⟨⟨T.cl_Form, T.na_Form_beta⟩, (List.forall_mem_nil _)⟩)
theorem fc_cells (T : Txt P K mg A) : ∀ C ∈ cs_cells, Cls K (clA A C) ∧ NoAttr K (clA A C) "cells" := (List.forall_mem_cons.2 ⟨⟨T.cl_View, T.na_View_cells⟩, (List.forall_mem_cons.2 ⟨⟨T.cl_Store, T.na_Store_cells⟩, (List.forall_mem_nil _)⟩)⟩)
theorem fc_closed (T : Txt P K mg A) : ∀ C ∈ cs_closed, Cls K (clA A C) ∧ NoAttr K (clA A C) "closed" := (List.forall_mem_cons.2 ⟨⟨T.cl_View, T.na_View_closed⟩, (List.forall_mem_nil _)⟩)
theorem fc_count (T : Txt P K mg A) : ∀ C ∈ cs_count, Cls K (clA A C) ∧ NoAttr K (clA A C) "count" := (List.forall_mem_cons.2 ⟨⟨T.cl_Window, T.na_Window_count⟩, (List.forall_mem_nil _)⟩)
theorem fc_lent_out (T : Txt P K mg A) : ∀ C ∈ cs_lent_out, Cls K (clA A C) ∧ NoAttr K (clA A C) "lent_out" := (List.forall_mem_cons.2 ⟨⟨T.cl_View, T.na_View_lent_out⟩, (List.forall_mem_cons.2 ⟨⟨T.cl_Store, T.na_Store_lent_out⟩, (List.forall_mem_nil _)⟩)⟩)
theorem fc_locked (T : Txt P K mg A) : ∀ C ∈ cs_locked, Cls K (clA A C) ∧ NoAttr K (clA A C) "locked" := (List.forall_mem_cons.2 ⟨⟨T.cl_View, T.na_View_locked⟩, (List.forall_mem_nil _)⟩)
theorem fc_size (T : Txt P K mg A) : ∀ C ∈ cs_size, Cls K (clA A C) ∧ NoAttr K (clA A C) "size" := (List.forall_mem_cons.2 ⟨⟨T.cl_Window, T.na_Window_size⟩, (List.forall_mem_cons.2 ⟨⟨T.cl_View, T.na_View_size⟩, (List.forall_mem_nil _)⟩)⟩)
theorem fc_start (T : Txt P K mg A) : ∀ C ∈ cs_start, Cls K (clA A C) ∧ NoAttr K (clA A C) "start" := (List.forall_mem_cons.2 ⟨⟨T.cl_Window, T.na_Window_start⟩, (List.forall_mem_nil _)⟩)
theorem fc_step (T : Txt P K mg A) : ∀ C ∈ cs_step, Cls K (clA A C) ∧ NoAttr K (clA A C) "step" := (List.forall_mem_cons.2 ⟨⟨T.cl_Window, T.na_Window_step⟩, (List.forall_mem_nil _)⟩)
theorem fc_until (T : Txt P K mg A) : ∀ C ∈ cs_until, Cls K (clA A C) ∧ NoAttr K (clA A C) "until" := (List.forall_mem_cons.2 ⟨⟨T.cl_Track, T.na_Track_until⟩, (List.forall_mem_nil _)⟩)
theorem fc_window (T : Txt P K mg A) : ∀ C ∈ cs_window, Cls K (clA A C) ∧ NoAttr K (clA A C) "window" := (List.forall_mem_cons.2 ⟨⟨T.cl_View, T.na_View_window⟩, (List.forall_mem_nil _)⟩)
theorem io_View (T : Txt P K mg A) : PySem.W.kitOne K (.type "NoneType") (.ref (clA A 14)) = some false ∧ ∀ t : Ty, PySem.W.kitOne K (.type t.n) (.ref (clA A 14)) = some false := ⟨T.io_View_NoneType, fun t => by cases t <;> first | exact T.io_View_int | exact T.io_View_bool | exact T.io_View_str | exact T.io_View_tuple | exact T.io_View_list | exact T.io_View_dict⟩
theorem ioo_View (T : Txt P K mg A) : ∀ C' ∈ io_os_View, IsiC K (clA A C') ∧ PySem.W.kitOne K (.ref (clA A C')) (.ref (clA A 14)) = some false := List.forall_mem_nil _
theorem sc_View_check : FnScope ["self"] ["self"] (defScope s_View_check) := ⟨rfl, rfl, rfl, by decide +kernel, rfl, by decide +kernel, by decide +kernel⟩
theorem ok_View_check (T : Txt P K mg A) : FnOk P w K mg base (L2.CX P w) 1 A.f_View_check A.d_View_check ["self"] (FnP K (clA A) 1 F_View_check) := by
  refine T.F_View_check.okX sc_View_check fn_len (fun cdv Ar outer s H vs Q E hr h => ⟨StT (ec K (clA A)) (wE E) _, ?_, fn_body rfl (by decide) h⟩)
  exact (pss_one (s_if (ps_if (ts_e (pt_val (ev_fld (pe_fldK (K := K) rfl (ev_v (pv 0))) rfl (fc_closed T)) (by intro _; rfl))) (pss_one (s_raiseY (ps_raiseY0 T.y_Gone rfl (takes_of rfl rfl rfl rfl) rfl))) (ss_nil pss_nil))))
theorem sc_is_integer : FnScope ["value", "low", "high"] ["value", "low", "high"] (defScope s_is_integer) := ⟨rfl, rfl, rfl, by decide +kernel, rfl, by decide +kernel, by decide +kernel⟩
theorem ok_is_integer (T : Txt P K mg A) : FnOk P w K mg base (L2.CX P w) 1 A.f_is_integer A.d_is_integer ["value", "low", "high"] (FnP K (clA A) 3 F_is_integer) := by
  refine T.F_is_integer.okX sc_is_integer fn_len (fun cdv Ar outer s H vs Q E hr h => ⟨StT (ec K (clA A)) (wE E) _, ?_, fn_body rfl (by decide) h⟩)
  exact (ss_seq (pss_cons (s_if (ps_if (PW.pt (tw_or (pw_or (ts_not (pt_not (ts_e (pt_val (ev_isi (t := .int) (pe_callB (call_isiK' (K := K) rfl) (by rfl) T.z_isinstance (by decide +kernel) (pa_cons (ev_v (pv 0)) (pa_cons (pe_bltn (v := .ty "int") (by rfl) T.z_int (by decide +kernel) rfl) pa_nil))) rfl) (by intro _; rfl))))) (pw_or1 (ts_e (pt_val (ev_isi (t := .bool) (pe_callB (call_isiK' (K := K) rfl) (by rfl) T.z_isinstance (by decide +kernel) (pa_cons (ev_v (pv 0)) (pa_cons (pe_bltn (v := .ty "bool") (by rfl) T.z_bool (by decide +kernel) rfl) pa_nil))) rfl) (by intro _; rfl))))))) (pss_one (s_ret (ps_ret (ev_bl pe_bl)))) (ss_nil pss_nil)))
      (ss_seq (pss_cons (s_if (ps_if (PW.pt (tw_and (pw_and (ts_b (pt_cmpR op_isnt0 (ev_v (pv 1)) (ev_non pe_non) (nomark _)) os_isnt) (pw_and1 (ts_b (pt_cmpR op_ltP (ev_v (pv 0)) (ev_v (pv 1)) (nomark _)) os_lt))))) (pss_one (s_ret (ps_ret (ev_bl pe_bl)))) (ss_nil pss_nil)))
      (pss_one (s_ret (ps_ret (ev_or (pe_or (ev_b (pe_cmpR op_is0 (ev_v (pv 2)) (ev_non pe_non) (nomark _)) os_is) (pe_one (ev_b (pe_cmpR op_leP (ev_v (pv 0)) (ev_v (pv 2)) (nomark _)) os_le)))))))))))
theorem sc_View_index_of : FnScope ["self", "index", "count"] ["self", "index"] (defScope s_View_index_of) := ⟨rfl, rfl, rfl, by decide +kernel, rfl, by decide +kernel, by decide +kernel⟩
theorem ok_View_index_of (T : Txt P K mg A) : FnOk P w K mg base (L2.CX P w) 3 A.f_View_index_of A.d_View_index_of ["self", "index"] (FnP K (clA A) 2 F_View_index_of) := by
  have G_is_integer : FnR P w K mg base (L2.CX P w) 1 A.f_is_integer (FnP K (clA A) 3 F_is_integer) := FnOk.r0 (ok_is_integer T) T.b_is_integer
  refine T.F_View_index_of.okX sc_View_index_of fn_len (fun cdv Ar outer s H vs Q E hr h => ⟨StT (ec K (clA A)) (wE E) _, ?_, fn_body rfl (by decide) h⟩)
  exact (ss_seq (pss_cons (s_set (ps_set (i := 2) sc_View_index_of.nd rfl (.inl rfl) (ev_fld (pe_fldK (K := K) rfl (ev_fld (pe_fldK (K := K) rfl (ev_v (pv 0))) rfl (fc_window T))) rfl (fc_count T))))
      (ss_seq (pss_cons (s_if (ps_if (ts_not (pt_not (ts_e (pt_val (ev_f (pe_callX G_is_integer (hr.mono (j := 1) (by decide)) rfl T.g_is_integer T.kp_is_integer (fun σ => passAt (takes_of rfl rfl rfl rfl) σ) (ar_cons (pa_cons (ev_v (pv 1)) (ar_cons (pa_cons (ev_u (pe_un un_negI (ev_v (pv 2))) us_neg) (ar_cons (pa_cons (ev_b (pe_op op_subI (ev_v (pv 2)) (ev_int pe_int)) os_sub) (ar_nil pa_nil))))))))) (by intro _; rfl))))) (pss_one (s_raiseX (ps_raiseX T.x_BadIndex (hr.mono (by decide)) rfl (takes_of rfl rfl rfl rfl) rfl (ar_cons (pa_cons (ev_v (pv 1)) (ar_nil pa_nil)))))) (ss_nil pss_nil)))
      (pss_one (s_ret (ps_ret (ev_if (pe_ifExp (ts_b (pt_cmpR op_ltP (ev_v (pv 1)) (ev_int pe_int) (nomark _)) os_lt) (ev_b (pe_op (op_addP (K := K) rfl) (ev_v (pv 1)) (ev_v (pv 2))) (os_add rfl)) (ev_v (pv 1)))))))))))
theorem sc_View_places_of : FnScope ["self", "at", "first"] ["self", "at"] (defScope s_View_places_of) := ⟨rfl, rfl, rfl, by decide +kernel, rfl, by decide +kernel, by decide +kernel⟩
theorem ok_View_places_of (T : Txt P K mg A) : FnOk P w K mg base (L2.CX P w) 1 A.f_View_places_of A.d_View_places_of ["self", "at"] (FnP K (clA A) 2 F_View_places_of) := by
  refine T.F_View_places_of.okX sc_View_places_of fn_len (fun cdv Ar outer s H vs Q E hr h => ⟨StT (ec K (clA A)) (wE E) _, ?_, fn_body rfl (by decide) h⟩)
  exact (ss_seq (pss_cons (s_set (ps_set (i := 2) sc_View_places_of.nd rfl (.inl rfl) (ev_b (pe_op (op_addP (K := K) rfl) (ev_fld (pe_fldK (K := K) rfl (ev_fld (pe_fldK (K := K) rfl (ev_v (pv 0))) rfl (fc_window T))) rfl (fc_start T)) (ev_b (pe_op op_mulA (ev_v (pv 1)) (ev_fld (pe_fldK (K := K) rfl (ev_fld (pe_fldK (K := K) rfl (ev_v (pv 0))) rfl (fc_window T))) rfl (fc_step T))) os_mul)) (os_add rfl))))
      (pss_one (s_ret (ps_ret (ev_lstRg (pe_listRg rfl (by rfl) T.z_list (prg_2 (by rfl) T.z_range (ev_v (pv 2)) (ev_b (pe_op (op_addP (K := K) rfl) (ev_v (pv 2)) (ev_fld (pe_fldK (K := K) rfl (ev_v (pv 0))) rfl (fc_size T))) (os_add rfl))))))))))
theorem sc_View_give : FnScope ["self", "at", "value", "rest", "place"] ["self", "at", "value"] (defScope s_View_give) := ⟨rfl, rfl, rfl, by decide +kernel, rfl, by decide +kernel, by decide +kernel⟩
theorem ok_View_give (T : Txt P K mg A) : FnOk P w K mg base (L2.CX P w) 2 A.f_View_give A.d_View_give ["self", "at", "value"] (FnP K (clA A) 3 F_View_give) := by
  have G_View_places_of : FnR P w K mg base (L2.CX P w) 1 A.f_View_places_of (FnP K (clA A) 2 F_View_places_of) := FnOk.r0 (ok_View_places_of T) T.b_View_places_of
  refine T.F_View_give.okX sc_View_give fn_len (fun cdv Ar outer s H vs Q E hr h => ⟨StT (ec K (clA A)) (wE E) _, ?_, fn_body rfl (by decide) h⟩)
  exact (ss_seq (pss_cons (s_set (ps_set (i := 3) sc_View_give.nd rfl (.inl rfl) (ev_v (pv 2))))
      (pss_one (s_for (ps_for (passes_of rfl) rfl (it_seq (pi_seq (ev_m (pe_methX (ev_v (pv 0)) T.cl_View T.mt_View_places_of G_View_places_of (hr.mono (j := 1) (by decide)) (fun σ => passAt (takes_of rfl rfl rfl rfl) σ) (ar_cons (pa_cons (ev_v (pv 1)) (ar_nil pa_nil))))) (K := K) rfl) rfl) (pg_name (i := 4) sc_View_give.nd rfl (.inl rfl)) (ss_seq (pss_cons (s_sub (ps_asg (ev_b (pe_op op_and (ev_v (pv 3)) (ev_int pe_int)) os_band) (pg_sub (ev_fld (pe_fldK (K := K) rfl (ev_v (pv 0))) rfl (fc_cells T)) (ev_v (pv 4)) (set_P (hu_of hr)))))
      (pss_one (s_set (ps_set (i := 3) sc_View_give.nd rfl (.inl rfl) (ev_b (pe_op op_shr (ev_v (pv 3)) (ev_int pe_int)) os_shr))))))) pat_nm))))
theorem sc_View___setitem__ : FnScope ["self", "index", "value", "at"] ["self", "index", "value"] (defScope s_View___setitem__) := ⟨rfl, rfl, rfl, by decide +kernel, rfl, by decide +kernel, by decide +kernel⟩
theorem ok_View___setitem__ (T : Txt P K mg A) : FnOk P w K mg base (L2.CX P w) 4 A.f_View___setitem__ A.d_View___setitem__ ["self", "index", "value"] (FnP K (clA A) 3 F_View___setitem__) := by
  have G_View_check : FnR P w K mg base (L2.CX P w) 1 A.f_View_check (FnP K (clA A) 1 F_View_check) := FnOk.r0 (ok_View_check T) T.b_View_check
  have G_View_give : FnR P w K mg base (L2.CX P w) 2 A.f_View_give (FnP K (clA A) 3 F_View_give) := FnOk.r0 (ok_View_give T) T.b_View_give
  have G_View_index_of : FnR P w K mg base (L2.CX P w) 3 A.f_View_index_of (FnP K (clA A) 2 F_View_index_of) := FnOk.r0 (ok_View_index_of T) T.b_View_index_of
  have G_is_integer : FnR P w K mg base (L2.CX P w) 1 A.f_is_integer (FnP K (clA A) 3 F_is_integer) := FnOk.r0 (ok_is_integer T) T.b_is_integer
  refine T.F_View___setitem__.okX sc_View___setitem__ fn_len (fun cdv Ar outer s H vs Q E hr h => ⟨StT (ec K (clA A)) (wE E) _, ?_, fn_body rfl (by decide) h⟩)
  exact (ss_seq (pss_cons (s_drop (ps_expr (ev_m0 (pe_methX0 (ev_v (pv 0)) T.cl_View T.mt_View_check G_View_check (hr.mono (j := 1) (by decide)) (fun σ => passAt (takes_of rfl rfl rfl rfl) σ)))))
      (ss_seq (pss_cons (s_if (ps_if (ts_e (pt_val (ev_fld (pe_fldK (K := K) rfl (ev_v (pv 0))) rfl (fc_locked T)) (by intro _; rfl))) (pss_one (s_raiseY (ps_raiseY0 T.y_Locked rfl (takes_of rfl rfl rfl rfl) rfl))) (ss_nil pss_nil)))
      (ss_seq (pss_cons (s_set (ps_set (i := 3) sc_View___setitem__.nd rfl (.inl rfl) (ev_m (pe_methX (ev_v (pv 0)) T.cl_View T.mt_View_index_of G_View_index_of (hr.mono (j := 3) (by decide)) (fun σ => passAt (takes_of rfl rfl rfl rfl) σ) (ar_cons (pa_cons (ev_v (pv 1)) (ar_nil pa_nil)))))))
      (ss_seq (pss_cons (s_if (ps_if (ts_not (pt_not (ts_e (pt_val (ev_f (pe_callX G_is_integer (hr.mono (j := 1) (by decide)) rfl T.g_is_integer T.kp_is_integer (fun σ => passAt (takes_of rfl rfl rfl rfl) σ) (ar_cons (pa_cons (ev_v (pv 2)) (ar_cons (pa_cons (ev_int pe_int) (ar_cons (pa_cons (ev_tabI (pe_ix ix_KI (pe_glob (by rfl) T.k_TOPS (v := .ref A.k_TOPS) rfl) (ev_fld (pe_fldK (K := K) rfl (ev_v (pv 0))) rfl (fc_size T)) (fun _ _ => rfl)) T.q_TOPS) (ar_nil pa_nil))))))))) (by intro _; rfl))))) (pss_one (s_raiseX (ps_raiseX T.x_BadValue (hr.mono (by decide)) rfl (takes_of rfl rfl rfl rfl) rfl (ar_cons (pa_cons (ev_v (pv 2)) (ar_nil pa_nil)))))) (ss_nil pss_nil)))
      (pss_one (s_drop (ps_expr (ev_m (pe_methX (ev_v (pv 0)) T.cl_View T.mt_View_give G_View_give (hr.mono (j := 2) (by decide)) (fun σ => passAt (takes_of rfl rfl rfl rfl) σ) (ar_cons (pa_cons (ev_v (pv 3)) (ar_cons (pa_cons (ev_v (pv 2)) (ar_nil pa_nil))))))))))))))))))
theorem sc_Store___init__ : FnScope ["self", "values", "at", "value"] ["self", "values"] (defScope s_Store___init__) := ⟨rfl, rfl, rfl, by decide +kernel, rfl, by decide +kernel, by decide +kernel⟩
theorem ok_Store___init__ (T : Txt P K mg A) : FnOk P w K mg base (L2.CX P w) 3 A.f_Store___init__ A.d_Store___init__ ["self", "values"] (FnP K (clA A) 2 F_Store___init__) := by
  have G_is_integer : FnR P w K mg base (L2.CX P w) 1 A.f_is_integer (FnP K (clA A) 3 F_is_integer) := FnOk.r0 (ok_is_integer T) T.b_is_integer
  refine T.F_Store___init__.okX sc_Store___init__ fn_len (fun cdv Ar outer s H vs Q E hr h => ⟨StT (ec K (clA A)) (wE E) _, ?_, fn_body rfl (by decide) h⟩)
  exact (ss_seq (pss_cons (s_if (ps_if (PW.pt (tw_or (pw_or (ts_not (pt_not (ts_e (pt_val (ev_isiTys (ts := [.list, .tuple]) (pe_callB (call_isiTK (K := K) rfl) (by rfl) T.z_isinstance (by decide +kernel) (pa_cons (ev_v (pv 1)) (pa_cons (pe_tup (pa_cons (pe_bltn (v := .ty "list") (by rfl) T.z_list (by decide +kernel) rfl) (pa_cons (pe_bltn (v := .ty "tuple") (by rfl) T.z_tuple (by decide +kernel) rfl) pa_nil))) pa_nil))) rfl) (by intro _; rfl))))) (pw_or1 (ts_b (pt_cmpR op_gtP (ev_k (pe_callB (call_lenP (K := K) rfl) (by rfl) T.z_len (by decide +kernel) (ar_cons (pa_cons (ev_v (pv 1)) (ar_nil pa_nil)))) (cs_len rfl)) (ev_c (pe_globE (by rfl) T.k_MOST_BYTES) (fun _ _ => .int _)) (nomark _)) os_gt))))) (pss_one (s_raiseX (ps_raiseX T.x_BadBytes (hr.mono (by decide)) rfl (takes_of rfl rfl rfl rfl) rfl (ar_cons (pa_cons (ev_u (pe_un un_negI (ev_int pe_int)) us_neg) (ar_nil pa_nil)))))) (ss_nil pss_nil)))
      (ss_seq (pss_cons (s_for (ps_for (passes_of rfl) rfl (it_enum (pi_enumA (by rfl) T.z_enumerate (ar_cons (pa_cons (ev_v (pv 1)) (ar_nil pa_nil)))) rfl) (pg_tup rfl (pgs_cons (pg_name (i := 2) sc_Store___init__.nd rfl (.inl rfl)) (pgs_cons (pg_name (i := 3) sc_Store___init__.nd rfl (.inl rfl)) pgs_nil))) (pss_one (s_if (ps_if (ts_not (pt_not (ts_e (pt_val (ev_f (pe_callX G_is_integer (hr.mono (j := 1) (by decide)) rfl T.g_is_integer T.kp_is_integer (fun σ => passAt (takes_of rfl rfl rfl rfl) σ) (ar_cons (pa_cons (ev_v (pv 3)) (ar_cons (pa_cons (ev_int pe_int) (ar_cons (pa_cons (ev_int pe_int) (ar_nil pa_nil))))))))) (by intro _; rfl))))) (pss_one (s_raiseX (ps_raiseX T.x_BadBytes (hr.mono (by decide)) rfl (takes_of rfl rfl rfl rfl) rfl (ar_cons (pa_cons (ev_v (pv 2)) (ar_nil pa_nil)))))) (ss_nil pss_nil))))) (pat_tp (pats_cons (pats_cons pats_nil)) rfl rfl))
      (ss_seq (pss_cons (s_fld (ps_fld (ev_v (pv 0)) (ev_k (pe_callTy (call_listP rfl (K := K) rfl) (by rfl) T.z_list (by decide +kernel) (ar_cons (pa_cons (ev_v (pv 1)) (ar_nil pa_nil)))) (cs_list rfl)) rfl) rfl (fc_cells T))
      (pss_one (s_fld (ps_fld (ev_v (pv 0)) (ev_lst (pe_lst (ar_nil pa_nil))) rfl) rfl (fc_lent_out T)))))))))
theorem sc_View___init__ : FnScope ["self", "cells", "window", "locked", "lent_out"] ["self", "cells", "window", "locked", "lent_out"] (defScope s_View___init__) := ⟨rfl, rfl, rfl, by decide +kernel, rfl, by decide +kernel, by decide +kernel⟩
theorem ok_View___init__ (T : Txt P K mg A) : FnOk P w K mg base (L2.CX P w) 1 A.f_View___init__ A.d_View___init__ ["self", "cells", "window", "locked", "lent_out"] (FnP K (clA A) 5 F_View___init__) := by
  refine T.F_View___init__.okX sc_View___init__ fn_len (fun cdv Ar outer s H vs Q E hr h => ⟨StT (ec K (clA A)) (wE E) _, ?_, fn_body rfl (by decide) h⟩)
  exact (ss_seq (pss_cons (s_fld (ps_fld (ev_v (pv 0)) (ev_v (pv 1)) rfl) rfl (fc_cells T))
      (ss_seq (pss_cons (s_fld (ps_fld (ev_v (pv 0)) (ev_v (pv 2)) rfl) rfl (fc_window T))
      (ss_seq (pss_cons (s_fld (ps_fld (ev_v (pv 0)) (ev_v (pv 3)) rfl) rfl (fc_locked T))
      (ss_seq (pss_cons (s_fld (ps_fld (ev_v (pv 0)) (ev_fld (pe_fldK (K := K) rfl (ev_v (pv 2))) rfl (fc_size T)) rfl) rfl (fc_size T))
      (ss_seq (pss_cons (s_fld (ps_fld (ev_v (pv 0)) (ev_v (pv 4)) rfl) rfl (fc_lent_out T))
      (ss_seq (pss_cons (s_fld (ps_fld (ev_v (pv 0)) (ev_bl pe_bl) rfl) rfl (fc_closed T))
      (pss_one (s_drop (ps_expr (ev_bm (pe_bm PySem.F.plainAttrs_list PySem.F.slot_list_append PySem.F.type_list_append mt_append (ev_v (pv 4)) (ar_cons (pa_cons (ev_v (pv 0)) (ar_nil pa_nil)))) rfl ty_lst ms_append))))))))))))))))
theorem sc_Form___init__ : FnScope ["self", "alpha", "beta"] ["self", "alpha", "beta"] (defScope s_Form___init__) := ⟨rfl, rfl, rfl, by decide +kernel, rfl, by decide +kernel, by decide +kernel⟩
theorem ok_Form___init__ (T : Txt P K mg A) : FnOk P w K mg base (L2.CX P w) 1 A.f_Form___init__ A.d_Form___init__ ["self", "alpha", "beta"] (FnP K (clA A) 3 F_Form___init__) := by
  refine T.F_Form___init__.okX sc_Form___init__ fn_len (fun cdv Ar outer s H vs Q E hr h => ⟨StT (ec K (clA A)) (wE E) _, ?_, fn_body rfl (by decide) h⟩)
  exact (ss_seq (pss_cons (s_fld (ps_fld (ev_v (pv 0)) (ev_v (pv 1)) rfl) rfl (fc_alpha T))
      (pss_one (s_fld (ps_fld (ev_v (pv 0)) (ev_v (pv 2)) rfl) rfl (fc_beta T)))))
theorem sc_number_form : FnScope ["number"] ["number"] (defScope s_number_form) := ⟨rfl, rfl, rfl, by decide +kernel, rfl, by decide +kernel, by decide +kernel⟩
theorem ok_number_form (T : Txt P K mg A) : FnOk P w K mg base (L2.CX P w) 3 A.f_number_form A.d_number_form ["number"] (FnP K (clA A) 1 F_number_form) := by
  have G_Form___init__ : FnR P w K mg base (L2.CX P w) 1 A.f_Form___init__ (FnP K (clA A) 3 F_Form___init__) := FnOk.r0 (ok_Form___init__ T) T.b_Form___init__
  refine T.F_number_form.okX sc_number_form fn_len (fun cdv Ar outer s H vs Q E hr h => ⟨StT (ec K (clA A)) (wE E) _, ?_, fn_body rfl (by decide) h⟩)
  exact (pss_one (s_ret (ps_ret (ev_mk (pe_makeX T.mk_Form G_Form___init__ (hr.mono (by decide)) rfl T.g_Form (fun σ => passAt (takes_of rfl rfl rfl rfl) σ) (ar_cons (pa_cons (ev_v (pv 0)) (ar_cons (pa_cons (ev_int pe_int) (ar_nil pa_nil))))))))))
theorem sc_Track_narrow : FnScope ["self", "last"] ["self", "last"] (defScope s_Track_narrow) := ⟨rfl, rfl, rfl, by decide +kernel, rfl, by decide +kernel, by decide +kernel⟩
theorem ok_Track_narrow (T : Txt P K mg A) : FnOk P w K mg base (L2.CX P w) 1 A.f_Track_narrow A.d_Track_narrow ["self", "last"] (FnP K (clA A) 2 F_Track_narrow) := by
  refine T.F_Track_narrow.okX sc_Track_narrow fn_len (fun cdv Ar outer s H vs Q E hr h => ⟨StT (ec K (clA A)) (wE E) _, ?_, fn_body rfl (by decide) h⟩)
  exact (pss_one (s_if (ps_if (PW.pt (tw_or (pw_or (ts_b (pt_cmpR op_is0 (ev_fld (pe_fldK (K := K) rfl (ev_v (pv 0))) rfl (fc_until T)) (ev_non pe_non) (nomark _)) os_is) (pw_or1 (ts_b (pt_cmpR op_ltP (ev_v (pv 1)) (ev_fld (pe_fldK (K := K) rfl (ev_v (pv 0))) rfl (fc_until T)) (nomark _)) os_lt))))) (pss_one (s_fld (ps_fld (ev_v (pv 0)) (ev_v (pv 1)) rfl) rfl (fc_until T))) (ss_nil pss_nil))))
theorem sc_Track_divide : FnScope ["self", "f", "number"] ["self", "f", "number"] (defScope s_Track_divide) := ⟨rfl, rfl, rfl, by decide +kernel, rfl, by decide +kernel, by decide +kernel⟩
theorem ok_Track_divide (T : Txt P K mg A) : FnOk P w K mg base (L2.CX P w) 3 A.f_Track_divide A.d_Track_divide ["self", "f", "number"] (FnP K (clA A) 3 F_Track_divide) := by
  have G_Form___init__ : FnR P w K mg base (L2.CX P w) 1 A.f_Form___init__ (FnP K (clA A) 3 F_Form___init__) := FnOk.r0 (ok_Form___init__ T) T.b_Form___init__
  have G_Track_narrow : FnR P w K mg base (L2.CX P w) 1 A.f_Track_narrow (FnP K (clA A) 2 F_Track_narrow) := FnOk.r0 (ok_Track_narrow T) T.b_Track_narrow
  refine T.F_Track_divide.okX sc_Track_divide fn_len (fun cdv Ar outer s H vs Q E hr h => ⟨StT (ec K (clA A)) (wE E) _, ?_, fn_body rfl (by decide) h⟩)
  exact (ss_seq (pss_cons (s_if (ps_if (ts_b (pt_cmpR (op_neX (K := K) rfl (hu65 hr)) (ev_b (pe_op op_modZ (ev_fld (pe_fldK (K := K) rfl (ev_v (pv 1))) rfl (fc_beta T)) (ev_v (pv 2))) os_mod) (ev_int pe_int) (nomark _)) (os_neX rfl)) (ss_seq (pss_cons (s_drop (ps_expr (ev_m (pe_methX (ev_v (pv 0)) T.cl_Track T.mt_Track_narrow G_Track_narrow (hr.mono (j := 1) (by decide)) (fun σ => passAt (takes_of rfl rfl rfl rfl) σ) (ar_cons (pa_cons (ev_int pe_int) (ar_nil pa_nil)))))))
      (pss_one (s_ret (ps_ret (ev_tup (pe_tup (ar_cons (pa_cons (ev_mk (pe_makeX T.mk_Form G_Form___init__ (hr.mono (by decide)) rfl T.g_Form (fun σ => passAt (takes_of rfl rfl rfl rfl) σ) (ar_cons (pa_cons (ev_b (pe_op op_fdivZ (ev_fld (pe_fldK (K := K) rfl (ev_v (pv 1))) rfl (fc_alpha T)) (ev_v (pv 2))) os_fdiv) (ar_cons (pa_cons (ev_int pe_int) (ar_nil pa_nil))))))) (ar_cons (pa_cons (ev_b (pe_op op_modZ (ev_fld (pe_fldK (K := K) rfl (ev_v (pv 1))) rfl (fc_alpha T)) (ev_v (pv 2))) os_mod) (ar_nil pa_nil)))))))))))) (ss_nil pss_nil)))
      (pss_one (s_ret (ps_ret (ev_tup (pe_tup (ar_cons (pa_cons (ev_mk (pe_makeX T.mk_Form G_Form___init__ (hr.mono (by decide)) rfl T.g_Form (fun σ => passAt (takes_of rfl rfl rfl rfl) σ) (ar_cons (pa_cons (ev_b (pe_op op_fdivZ (ev_fld (pe_fldK (K := K) rfl (ev_v (pv 1))) rfl (fc_alpha T)) (ev_v (pv 2))) os_fdiv) (ar_cons (pa_cons (ev_b (pe_op op_fdivZ (ev_fld (pe_fldK (K := K) rfl (ev_v (pv 1))) rfl (fc_beta T)) (ev_v (pv 2))) os_fdiv) (ar_nil pa_nil))))))) (ar_cons (pa_cons (ev_b (pe_op op_modZ (ev_fld (pe_fldK (K := K) rfl (ev_v (pv 1))) rfl (fc_alpha T)) (ev_v (pv 2))) os_mod) (ar_nil pa_nil))))))))))))
theorem sc_Form___sub__ : FnScope ["self", "other"] ["self", "other"] (defScope s_Form___sub__) := ⟨rfl, rfl, rfl, by decide +kernel, rfl, by decide +kernel, by decide +kernel⟩
theorem ok_Form___sub__ (T : Txt P K mg A) : FnOk P w K mg base (L2.CX P w) 3 A.f_Form___sub__ A.d_Form___sub__ ["self", "other"] (FnP K (clA A) 2 F_Form___sub__) := by
  have G_Form___init__ : FnR P w K mg base (L2.CX P w) 1 A.f_Form___init__ (FnP K (clA A) 3 F_Form___init__) := FnOk.r0 (ok_Form___init__ T) T.b_Form___init__
  refine T.F_Form___sub__.okX sc_Form___sub__ fn_len (fun cdv Ar outer s H vs Q E hr h => ⟨StT (ec K (clA A)) (wE E) _, ?_, fn_body rfl (by decide) h⟩)
  exact (pss_one (s_ret (ps_ret (ev_mk (pe_makeX T.mk_Form G_Form___init__ (hr.mono (by decide)) rfl T.g_Form (fun σ => passAt (takes_of rfl rfl rfl rfl) σ) (ar_cons (pa_cons (ev_b (pe_op op_subI (ev_fld (pe_fldK (K := K) rfl (ev_v (pv 0))) rfl (fc_alpha T)) (ev_fld (pe_fldK (K := K) rfl (ev_v (pv 1))) rfl (fc_alpha T))) os_sub) (ar_cons (pa_cons (ev_b (pe_op op_subI (ev_fld (pe_fldK (K := K) rfl (ev_v (pv 0))) rfl (fc_beta T)) (ev_fld (pe_fldK (K := K) rfl (ev_v (pv 1))) rfl (fc_beta T))) os_sub) (ar_nil pa_nil))))))))))
theorem sc_Track_below : FnScope ["self", "f", "g", "alpha", "beta"] ["self", "f", "g"] (defScope s_Track_below) := ⟨rfl, rfl, rfl, by decide +kernel, rfl, by decide +kernel, by decide +kernel⟩
theorem ok_Track_below (T : Txt P K mg A) : FnOk P w K mg base (L2.CX P w) 2 A.f_Track_below A.d_Track_below ["self", "f", "g"] (FnP K (clA A) 3 F_Track_below) := by
  have G_Track_narrow : FnR P w K mg base (L2.CX P w) 1 A.f_Track_narrow (FnP K (clA A) 2 F_Track_narrow) := FnOk.r0 (ok_Track_narrow T) T.b_Track_narrow
  refine T.F_Track_below.okX sc_Track_below fn_len (fun cdv Ar outer s H vs Q E hr h => ⟨StT (ec K (clA A)) (wE E) _, ?_, fn_body rfl (by decide) h⟩)
  exact (ss_seq (pss_cons (s_set (ps_set (i := 3) sc_Track_below.nd rfl (.inl rfl) (ev_b (pe_op op_subI (ev_fld (pe_fldK (K := K) rfl (ev_v (pv 1))) rfl (fc_alpha T)) (ev_fld (pe_fldK (K := K) rfl (ev_v (pv 2))) rfl (fc_alpha T))) os_sub)))
      (ss_seq (pss_cons (s_set (ps_set (i := 4) sc_Track_below.nd rfl (.inl rfl) (ev_b (pe_op op_subI (ev_fld (pe_fldK (K := K) rfl (ev_v (pv 1))) rfl (fc_beta T)) (ev_fld (pe_fldK (K := K) rfl (ev_v (pv 2))) rfl (fc_beta T))) os_sub)))
      (ss_seq (pss_cons (s_if (ps_if (ts_b (pt_cmpR op_ltP (ev_v (pv 3)) (ev_int pe_int) (nomark _)) os_lt) (ss_seq (pss_cons (s_if (ps_if (ts_b (pt_cmpR op_gtP (ev_v (pv 4)) (ev_int pe_int) (nomark _)) os_gt) (pss_one (s_drop (ps_expr (ev_m (pe_methX (ev_v (pv 0)) T.cl_Track T.mt_Track_narrow G_Track_narrow (hr.mono (j := 1) (by decide)) (fun σ => passAt (takes_of rfl rfl rfl rfl) σ) (ar_cons (pa_cons (ev_b (pe_op op_subI (ev_b (pe_op op_fdivZ (ev_b (pe_op op_subI (ev_b (pe_op (op_addP (K := K) rfl) (ev_u (pe_un un_negI (ev_v (pv 3))) us_neg) (ev_v (pv 4))) (os_add rfl)) (ev_int pe_int)) os_sub) (ev_v (pv 4))) os_fdiv) (ev_int pe_int)) os_sub) (ar_nil pa_nil)))))))) (ss_nil pss_nil)))
      (pss_one (s_ret (ps_ret (ev_bl pe_bl)))))) (ss_nil pss_nil)))
      (ss_seq (pss_cons (s_if (ps_if (ts_b (pt_cmpR op_ltP (ev_v (pv 4)) (ev_int pe_int) (nomark _)) os_lt) (pss_one (s_drop (ps_expr (ev_m (pe_methX (ev_v (pv 0)) T.cl_Track T.mt_Track_narrow G_Track_narrow (hr.mono (j := 1) (by decide)) (fun σ => passAt (takes_of rfl rfl rfl rfl) σ) (ar_cons (pa_cons (ev_b (pe_op op_fdivZ (ev_v (pv 3)) (ev_u (pe_un un_negI (ev_v (pv 4))) us_neg)) os_fdiv) (ar_nil pa_nil)))))))) (ss_nil pss_nil)))
      (pss_one (s_ret (ps_ret (ev_bl pe_bl))))))))))))
theorem sc_Form___add__ : FnScope ["self", "other"] ["self", "other"] (defScope s_Form___add__) := ⟨rfl, rfl, rfl, by decide +kernel, rfl, by decide +kernel, by decide +kernel⟩
theorem ok_Form___add__ (T : Txt P K mg A) : FnOk P w K mg base (L2.CX P w) 3 A.f_Form___add__ A.d_Form___add__ ["self", "other"] (FnP K (clA A) 2 F_Form___add__) := by
  have G_Form___init__ : FnR P w K mg base (L2.CX P w) 1 A.f_Form___init__ (FnP K (clA A) 3 F_Form___init__) := FnOk.r0 (ok_Form___init__ T) T.b_Form___init__
  refine T.F_Form___add__.okX sc_Form___add__ fn_len (fun cdv Ar outer s H vs Q E hr h => ⟨StT (ec K (clA A)) (wE E) _, ?_, fn_body rfl (by decide) h⟩)
  exact (pss_one (s_ret (ps_ret (ev_mk (pe_makeX T.mk_Form G_Form___init__ (hr.mono (by decide)) rfl T.g_Form (fun σ => passAt (takes_of rfl rfl rfl rfl) σ) (ar_cons (pa_cons (ev_b (pe_op (op_addP (K := K) rfl) (ev_fld (pe_fldK (K := K) rfl (ev_v (pv 0))) rfl (fc_alpha T)) (ev_fld (pe_fldK (K := K) rfl (ev_v (pv 1))) rfl (fc_alpha T))) (os_add rfl)) (ar_cons (pa_cons (ev_b (pe_op (op_addP (K := K) rfl) (ev_fld (pe_fldK (K := K) rfl (ev_v (pv 0))) rfl (fc_beta T)) (ev_fld (pe_fldK (K := K) rfl (ev_v (pv 1))) rfl (fc_beta T))) (os_add rfl)) (ar_nil pa_nil))))))))))
theorem sc_limited : FnScope ["track", "index", "low", "high"] ["track", "index", "low", "high"] (defScope s_limited) := ⟨rfl, rfl, rfl, by decide +kernel, rfl, by decide +kernel, by decide +kernel⟩
theorem ok_limited (T : Txt P K mg A) : FnOk P w K mg base (L2.CX P w) 3 A.f_limited A.d_limited ["track", "index", "low", "high"] (FnP K (clA A) 4 F_limited) := by
  have G_Track_below : FnR P w K mg base (L2.CX P w) 2 A.f_Track_below (FnP K (clA A) 3 F_Track_below) := FnOk.r0 (ok_Track_below T) T.b_Track_below
  refine T.F_limited.okX sc_limited fn_len (fun cdv Ar outer s H vs Q E hr h => ⟨StT (ec K (clA A)) (wE E) _, ?_, fn_body rfl (by decide) h⟩)
  exact (ss_seq (pss_cons (s_if (ps_if (ts_e (pt_val (ev_m (pe_methX (ev_v (pv 0)) T.cl_Track T.mt_Track_below G_Track_below (hr.mono (j := 2) (by decide)) (fun σ => passAt (takes_of rfl rfl rfl rfl) σ) (ar_cons (pa_cons (ev_v (pv 1)) (ar_cons (pa_cons (ev_v (pv 2)) (ar_nil pa_nil))))))) (by intro _; rfl))) (pss_one (s_ret (ps_ret (ev_v (pv 2))))) (ss_nil pss_nil)))
      (ss_seq (pss_cons (s_if (ps_if (ts_e (pt_val (ev_m (pe_methX (ev_v (pv 0)) T.cl_Track T.mt_Track_below G_Track_below (hr.mono (j := 2) (by decide)) (fun σ => passAt (takes_of rfl rfl rfl rfl) σ) (ar_cons (pa_cons (ev_v (pv 3)) (ar_cons (pa_cons (ev_v (pv 1)) (ar_nil pa_nil))))))) (by intro _; rfl))) (pss_one (s_ret (ps_ret (ev_v (pv 3))))) (ss_nil pss_nil)))
      (pss_one (s_ret (ps_ret (ev_v (pv 1)))))))))
theorem sc_from_end : FnScope ["track", "index", "count"] ["track", "index", "count"] (defScope s_from_end) := ⟨rfl, rfl, rfl, by decide +kernel, rfl, by decide +kernel, by decide +kernel⟩
theorem ok_from_end (T : Txt P K mg A) : FnOk P w K mg base (L2.CX P w) 4 A.f_from_end A.d_from_end ["track", "index", "count"] (FnP K (clA A) 3 F_from_end) := by
  have G_Form___add__ : FnR P w K mg base (L2.CX P w) 3 A.f_Form___add__ (FnP K (clA A) 2 F_Form___add__) := FnOk.r0 (ok_Form___add__ T) T.b_Form___add__
  have G_number_form : FnR P w K mg base (L2.CX P w) 3 A.f_number_form (FnP K (clA A) 1 F_number_form) := FnOk.r0 (ok_number_form T) T.b_number_form
  refine T.F_from_end.okX sc_from_end fn_len (fun cdv Ar outer s H vs Q E hr h => ⟨StT (ec K (clA A)) (wE E) _, ?_, fn_body rfl (by decide) h⟩)
  exact (ss_seq (pss_cons (s_if (ps_if (ts_b (pt_cmpR op_ltP (ev_v (pv 1)) (ev_int pe_int) (nomark _)) os_lt) (pss_one (s_ret (ps_ret (ev_b (pe_op (op_own2 T.sf_Form T.o_Form___add__ G_Form___add__ (hr.mono (by decide)) passL) (ev_v (pv 2)) (ev_f (pe_callX G_number_form (hr.mono (j := 3) (by decide)) rfl T.g_number_form T.kp_number_form (fun σ => passAt (takes_of rfl rfl rfl rfl) σ) (ar_cons (pa_cons (ev_v (pv 1)) (ar_nil pa_nil)))))) os_own)))) (ss_nil pss_nil)))
      (pss_one (s_ret (ps_ret (ev_f (pe_callX G_number_form (hr.mono (j := 3) (by decide)) rfl T.g_number_form T.kp_number_form (fun σ => passAt (takes_of rfl rfl rfl rfl) σ) (ar_cons (pa_cons (ev_v (pv 1)) (ar_nil pa_nil))))))))))
theorem sc_chosen_cells : FnScope ["track", "count", "first", "last", "step", "one", "low", "begin", "end", "span", "high", "many"] ["track", "count", "first", "last", "step"] (defScope s_chosen_cells) := ⟨rfl, rfl, rfl, by decide +kernel, rfl, by decide +kernel, by decide +kernel⟩
theorem ok_chosen_cells (T : Txt P K mg A) : FnOk P w K mg base (L2.CX P w) 5 A.f_chosen_cells A.d_chosen_cells ["track", "count", "first", "last", "step"] (FnP K (clA A) 5 F_chosen_cells) := by
  have G_Form___add__ : FnR P w K mg base (L2.CX P w) 3 A.f_Form___add__ (FnP K (clA A) 2 F_Form___add__) := FnOk.r0 (ok_Form___add__ T) T.b_Form___add__
  have G_Form___sub__ : FnR P w K mg base (L2.CX P w) 3 A.f_Form___sub__ (FnP K (clA A) 2 F_Form___sub__) := FnOk.r0 (ok_Form___sub__ T) T.b_Form___sub__
  have G_Track_below : FnR P w K mg base (L2.CX P w) 2 A.f_Track_below (FnP K (clA A) 3 F_Track_below) := FnOk.r0 (ok_Track_below T) T.b_Track_below
  have G_Track_divide : FnR P w K mg base (L2.CX P w) 3 A.f_Track_divide (FnP K (clA A) 3 F_Track_divide) := FnOk.r0 (ok_Track_divide T) T.b_Track_divide
  have G_from_end : FnR P w K mg base (L2.CX P w) 4 A.f_from_end (FnP K (clA A) 3 F_from_end) := FnOk.r0 (ok_from_end T) T.b_from_end
  have G_limited : FnR P w K mg base (L2.CX P w) 3 A.f_limited (FnP K (clA A) 4 F_limited) := FnOk.r0 (ok_limited T) T.b_limited
  have G_number_form : FnR P w K mg base (L2.CX P w) 3 A.f_number_form (FnP K (clA A) 1 F_number_form) := FnOk.r0 (ok_number_form T) T.b_number_form
  refine T.F_chosen_cells.okX sc_chosen_cells fn_len (fun cdv Ar outer s H vs Q E hr h => ⟨StT (ec K (clA A)) (wE E) _, ?_, fn_body rfl (by decide) h⟩)
  exact (ss_seq (pss_cons (s_set (ps_set (i := 5) sc_chosen_cells.nd rfl (.inl rfl) (ev_f (pe_callX G_number_form (hr.mono (j := 3) (by decide)) rfl T.g_number_form T.kp_number_form (fun σ => passAt (takes_of rfl rfl rfl rfl) σ) (ar_cons (pa_cons (ev_int pe_int) (ar_nil pa_nil)))))))
      (ss_seq (pss_cons (s_if (ps_if (ts_b (pt_cmpR op_gtP (ev_v (pv 4)) (ev_int pe_int) (nomark _)) os_gt) (ss_seq (pss_cons (s_set (ps_set (i := 6) sc_chosen_cells.nd rfl (.inl rfl) (ev_f (pe_callX G_number_form (hr.mono (j := 3) (by decide)) rfl T.g_number_form T.kp_number_form (fun σ => passAt (takes_of rfl rfl rfl rfl) σ) (ar_cons (pa_cons (ev_int pe_int) (ar_nil pa_nil)))))))
      (ss_seq (pss_cons (s_set (ps_set (i := 7) sc_chosen_cells.nd rfl (.inl rfl) (ev_if (pe_ifExp (ts_b (pt_cmpR op_is0 (ev_v (pv 2)) (ev_non pe_non) (nomark _)) os_is) (ev_v (pv 6)) (ev_f (pe_callX G_limited (hr.mono (j := 3) (by decide)) rfl T.g_limited T.kp_limited (fun σ => passAt (takes_of rfl rfl rfl rfl) σ) (ar_cons (pa_cons (ev_v (pv 0)) (ar_cons (pa_cons (ev_f (pe_callX G_from_end (hr.mono (j := 4) (by decide)) rfl T.g_from_end T.kp_from_end (fun σ => passAt (takes_of rfl rfl rfl rfl) σ) (ar_cons (pa_cons (ev_v (pv 0)) (ar_cons (pa_cons (ev_v (pv 2)) (ar_cons (pa_cons (ev_v (pv 1)) (ar_nil pa_nil))))))))) (ar_cons (pa_cons (ev_v (pv 6)) (ar_cons (pa_cons (ev_v (pv 1)) (ar_nil pa_nil)))))))))))))))
      (ss_seq (pss_cons (s_set (ps_set (i := 8) sc_chosen_cells.nd rfl (.inl rfl) (ev_if (pe_ifExp (ts_b (pt_cmpR op_is0 (ev_v (pv 3)) (ev_non pe_non) (nomark _)) os_is) (ev_v (pv 1)) (ev_f (pe_callX G_limited (hr.mono (j := 3) (by decide)) rfl T.g_limited T.kp_limited (fun σ => passAt (takes_of rfl rfl rfl rfl) σ) (ar_cons (pa_cons (ev_v (pv 0)) (ar_cons (pa_cons (ev_f (pe_callX G_from_end (hr.mono (j := 4) (by decide)) rfl T.g_from_end T.kp_from_end (fun σ => passAt (takes_of rfl rfl rfl rfl) σ) (ar_cons (pa_cons (ev_v (pv 0)) (ar_cons (pa_cons (ev_v (pv 3)) (ar_cons (pa_cons (ev_v (pv 1)) (ar_nil pa_nil))))))))) (ar_cons (pa_cons (ev_v (pv 6)) (ar_cons (pa_cons (ev_v (pv 1)) (ar_nil pa_nil)))))))))))))))
      (pss_one (s_set (ps_set (i := 9) sc_chosen_cells.nd rfl (.inl rfl) (ev_b (pe_op (op_own2 T.sf_Form T.o_Form___sub__ G_Form___sub__ (hr.mono (by decide)) passL) (ev_v (pv 8)) (ev_v (pv 7))) os_own)))))))))) (ss_seq (pss_cons (s_set (ps_set (i := 6) sc_chosen_cells.nd rfl (.inl rfl) (ev_f (pe_callX G_number_form (hr.mono (j := 3) (by decide)) rfl T.g_number_form T.kp_number_form (fun σ => passAt (takes_of rfl rfl rfl rfl) σ) (ar_cons (pa_cons (ev_u (pe_un un_negI (ev_int pe_int)) us_neg) (ar_nil pa_nil)))))))
      (ss_seq (pss_cons (s_set (ps_set (i := 10) sc_chosen_cells.nd rfl (.inl rfl) (ev_b (pe_op (op_own2 T.sf_Form T.o_Form___sub__ G_Form___sub__ (hr.mono (by decide)) passL) (ev_v (pv 1)) (ev_v (pv 5))) os_own)))
      (ss_seq (pss_cons (s_set (ps_set (i := 7) sc_chosen_cells.nd rfl (.inl rfl) (ev_if (pe_ifExp (ts_b (pt_cmpR op_is0 (ev_v (pv 2)) (ev_non pe_non) (nomark _)) os_is) (ev_v (pv 10)) (ev_f (pe_callX G_limited (hr.mono (j := 3) (by decide)) rfl T.g_limited T.kp_limited (fun σ => passAt (takes_of rfl rfl rfl rfl) σ) (ar_cons (pa_cons (ev_v (pv 0)) (ar_cons (pa_cons (ev_f (pe_callX G_from_end (hr.mono (j := 4) (by decide)) rfl T.g_from_end T.kp_from_end (fun σ => passAt (takes_of rfl rfl rfl rfl) σ) (ar_cons (pa_cons (ev_v (pv 0)) (ar_cons (pa_cons (ev_v (pv 2)) (ar_cons (pa_cons (ev_v (pv 1)) (ar_nil pa_nil))))))))) (ar_cons (pa_cons (ev_v (pv 6)) (ar_cons (pa_cons (ev_v (pv 10)) (ar_nil pa_nil)))))))))))))))
      (ss_seq (pss_cons (s_set (ps_set (i := 8) sc_chosen_cells.nd rfl (.inl rfl) (ev_if (pe_ifExp (ts_b (pt_cmpR op_is0 (ev_v (pv 3)) (ev_non pe_non) (nomark _)) os_is) (ev_v (pv 6)) (ev_f (pe_callX G_limited (hr.mono (j := 3) (by decide)) rfl T.g_limited T.kp_limited (fun σ => passAt (takes_of rfl rfl rfl rfl) σ) (ar_cons (pa_cons (ev_v (pv 0)) (ar_cons (pa_cons (ev_f (pe_callX G_from_end (hr.mono (j := 4) (by decide)) rfl T.g_from_end T.kp_from_end (fun σ => passAt (takes_of rfl rfl rfl rfl) σ) (ar_cons (pa_cons (ev_v (pv 0)) (ar_cons (pa_cons (ev_v (pv 3)) (ar_cons (pa_cons (ev_v (pv 1)) (ar_nil pa_nil))))))))) (ar_cons (pa_cons (ev_v (pv 6)) (ar_cons (pa_cons (ev_v (pv 10)) (ar_nil pa_nil)))))))))))))))
      (pss_one (s_set (ps_set (i := 9) sc_chosen_cells.nd rfl (.inl rfl) (ev_b (pe_op (op_own2 T.sf_Form T.o_Form___sub__ G_Form___sub__ (hr.mono (by decide)) passL) (ev_v (pv 7)) (ev_v (pv 8))) os_own))))))))))))))
      (ss_seq (pss_cons (s_if (ps_if (ts_not (pt_not (ts_e (pt_val (ev_m (pe_methX (ev_v (pv 0)) T.cl_Track T.mt_Track_below G_Track_below (hr.mono (j := 2) (by decide)) (fun σ => passAt (takes_of rfl rfl rfl rfl) σ) (ar_cons (pa_cons (ev_f (pe_callX G_number_form (hr.mono (j := 3) (by decide)) rfl T.g_number_form T.kp_number_form (fun σ => passAt (takes_of rfl rfl rfl rfl) σ) (ar_cons (pa_cons (ev_int pe_int) (ar_nil pa_nil))))) (ar_cons (pa_cons (ev_v (pv 9)) (ar_nil pa_nil))))))) (by intro _; rfl))))) (pss_one (s_ret (ps_ret (ev_tup (pe_tup (ar_cons (pa_cons (ev_v (pv 7)) (ar_cons (pa_cons (ev_f (pe_callX G_number_form (hr.mono (j := 3) (by decide)) rfl T.g_number_form T.kp_number_form (fun σ => passAt (takes_of rfl rfl rfl rfl) σ) (ar_cons (pa_cons (ev_int pe_int) (ar_nil pa_nil))))) (ar_nil pa_nil)))))))))) (ss_nil pss_nil)))
      (ss_seq (pss_cons (s_set (ps_set (i := 11) sc_chosen_cells.nd rfl (.inl rfl) (ev_m (pe_methX (ev_v (pv 0)) T.cl_Track T.mt_Track_divide G_Track_divide (hr.mono (j := 3) (by decide)) (fun σ => passAt (takes_of rfl rfl rfl rfl) σ) (ar_cons (pa_cons (ev_b (pe_op (op_own2 T.sf_Form T.o_Form___sub__ G_Form___sub__ (hr.mono (by decide)) passL) (ev_v (pv 9)) (ev_v (pv 5))) os_own) (ar_cons (pa_cons (ev_k (pe_callB call_absA (by rfl) T.z_abs (by decide +kernel) (ar_cons (pa_cons (ev_v (pv 4)) (ar_nil pa_nil)))) cs_abs) (ar_nil pa_nil)))))))))
      (pss_one (s_ret (ps_ret (ev_tup (pe_tup (ar_cons (pa_cons (ev_v (pv 7)) (ar_cons (pa_cons (ev_b (pe_op (op_own2 T.sf_Form T.o_Form___add__ G_Form___add__ (hr.mono (by decide)) passL) (ev_b (pe_ix (ix_P (hu_of hr) (K := K) rfl) (ev_v (pv 11)) (ev_int pe_int) (fun _ _ => rfl)) (os_ix rfl)) (ev_v (pv 5))) os_own) (ar_nil pa_nil))))))))))))))))))
theorem sc_Window___init__ : FnScope ["self", "start", "step", "count", "size"] ["self", "start", "step", "count", "size"] (defScope s_Window___init__) := ⟨rfl, rfl, rfl, by decide +kernel, rfl, by decide +kernel, by decide +kernel⟩
theorem ok_Window___init__ (T : Txt P K mg A) : FnOk P w K mg base (L2.CX P w) 3 A.f_Window___init__ A.d_Window___init__ ["self", "start", "step", "count", "size"] (FnP K (clA A) 5 F_Window___init__) := by
  have G_is_integer : FnR P w K mg base (L2.CX P w) 1 A.f_is_integer (FnP K (clA A) 3 F_is_integer) := FnOk.r0 (ok_is_integer T) T.b_is_integer
  refine T.F_Window___init__.okX sc_Window___init__ fn_len (fun cdv Ar outer s H vs Q E hr h => ⟨StT (ec K (clA A)) (wE E) _, ?_, fn_body rfl (by decide) h⟩)
  exact (ss_seq (pss_cons (s_if (ps_if (ts_not (pt_not (ts_e (pt_val (ev_f (pe_callX G_is_integer (hr.mono (j := 1) (by decide)) rfl T.g_is_integer T.kp_is_integer (fun σ => passAt (takes_of rfl rfl rfl rfl) σ) (ar_cons (pa_cons (ev_v (pv 1)) (ar_cons (pa_cons (ev_non pe_non) (ar_cons (pa_cons (ev_non pe_non) (ar_nil pa_nil))))))))) (by intro _; rfl))))) (pss_one (s_raiseX (ps_raiseX T.x_BadWindow (hr.mono (by decide)) rfl (takes_of rfl rfl rfl rfl) rfl (ar_cons (pa_cons (ev_int pe_int) (ar_nil pa_nil)))))) (ss_nil pss_nil)))
      (ss_seq (pss_cons (s_if (ps_if (PW.pt (tw_or (pw_or (ts_not (pt_not (ts_e (pt_val (ev_f (pe_callX G_is_integer (hr.mono (j := 1) (by decide)) rfl T.g_is_integer T.kp_is_integer (fun σ => passAt (takes_of rfl rfl rfl rfl) σ) (ar_cons (pa_cons (ev_v (pv 2)) (ar_cons (pa_cons (ev_non pe_non) (ar_cons (pa_cons (ev_non pe_non) (ar_nil pa_nil))))))))) (by intro _; rfl))))) (pw_or1 (ts_b (pt_cmpR (op_eqX (K := K) rfl (hu65 hr)) (ev_v (pv 2)) (ev_int pe_int) (nomark _)) (os_eqX rfl)))))) (pss_one (s_raiseX (ps_raiseX T.x_BadWindow (hr.mono (by decide)) rfl (takes_of rfl rfl rfl rfl) rfl (ar_cons (pa_cons (ev_int pe_int) (ar_nil pa_nil)))))) (ss_nil pss_nil)))
      (ss_seq (pss_cons (s_if (ps_if (ts_not (pt_not (ts_e (pt_val (ev_f (pe_callX G_is_integer (hr.mono (j := 1) (by decide)) rfl T.g_is_integer T.kp_is_integer (fun σ => passAt (takes_of rfl rfl rfl rfl) σ) (ar_cons (pa_cons (ev_v (pv 3)) (ar_cons (pa_cons (ev_int pe_int) (ar_cons (pa_cons (ev_non pe_non) (ar_nil pa_nil))))))))) (by intro _; rfl))))) (pss_one (s_raiseX (ps_raiseX T.x_BadWindow (hr.mono (by decide)) rfl (takes_of rfl rfl rfl rfl) rfl (ar_cons (pa_cons (ev_int pe_int) (ar_nil pa_nil)))))) (ss_nil pss_nil)))
      (ss_seq (pss_cons (s_if (ps_if (PW.pt (tw_or (pw_or (ts_not (pt_not (ts_e (pt_val (ev_f (pe_callX G_is_integer (hr.mono (j := 1) (by decide)) rfl T.g_is_integer T.kp_is_integer (fun σ => passAt (takes_of rfl rfl rfl rfl) σ) (ar_cons (pa_cons (ev_v (pv 4)) (ar_cons (pa_cons (ev_int pe_int) (ar_cons (pa_cons (ev_int pe_int) (ar_nil pa_nil))))))))) (by intro _; rfl))))) (tw_or (pw_or (ts_b (pt_cmpR (op_eqX (K := K) rfl (hu65 hr)) (ev_v (pv 4)) (ev_int pe_int) (nomark _)) (os_eqX rfl)) (pw_or1 (ts_b (pt_cmpR op_gtP (ev_v (pv 4)) (ev_k (pe_callB call_absA (by rfl) T.z_abs (by decide +kernel) (ar_cons (pa_cons (ev_v (pv 2)) (ar_nil pa_nil)))) cs_abs) (nomark _)) os_gt))))))) (pss_one (s_raiseX (ps_raiseX T.x_BadWindow (hr.mono (by decide)) rfl (takes_of rfl rfl rfl rfl) rfl (ar_cons (pa_cons (ev_int pe_int) (ar_nil pa_nil)))))) (ss_nil pss_nil)))
      (ss_seq (pss_cons (s_fld (ps_fld (ev_v (pv 0)) (ev_v (pv 1)) rfl) rfl (fc_start T))
      (ss_seq (pss_cons (s_fld (ps_fld (ev_v (pv 0)) (ev_v (pv 2)) rfl) rfl (fc_step T))
      (ss_seq (pss_cons (s_fld (ps_fld (ev_v (pv 0)) (ev_v (pv 3)) rfl) rfl (fc_count T))
      (pss_one (s_fld (ps_fld (ev_v (pv 0)) (ev_v (pv 4)) rfl) rfl (fc_size T)))))))))))))))))
theorem sc_Track___init__ : FnScope ["self"] ["self"] (defScope s_Track___init__) := ⟨rfl, rfl, rfl, by decide +kernel, rfl, by decide +kernel, by decide +kernel⟩
theorem ok_Track___init__ (T : Txt P K mg A) : FnOk P w K mg base (L2.CX P w) 1 A.f_Track___init__ A.d_Track___init__ ["self"] (FnP K (clA A) 1 F_Track___init__) := by
  refine T.F_Track___init__.okX sc_Track___init__ fn_len (fun cdv Ar outer s H vs Q E hr h => ⟨StT (ec K (clA A)) (wE E) _, ?_, fn_body rfl (by decide) h⟩)
  exact (pss_one (s_fld (ps_fld (ev_v (pv 0)) (ev_non pe_non) rfl) rfl (fc_until T)))
theorem sc_Window_sliced : FnScope ["self", "first", "last", "step", "begin", "many"] ["self", "first", "last", "step"] (defScope s_Window_sliced) := ⟨rfl, rfl, rfl, by decide +kernel, rfl, by decide +kernel, by decide +kernel⟩
theorem ok_Window_sliced (T : Txt P K mg A) : FnOk P w K mg base (L2.CX P w) 6 A.f_Window_sliced A.d_Window_sliced ["self", "first", "last", "step"] (FnP K (clA A) 4 F_Window_sliced) := by
  have G_Track___init__ : FnR P w K mg base (L2.CX P w) 1 A.f_Track___init__ (FnP K (clA A) 1 F_Track___init__) := FnOk.r0 (ok_Track___init__ T) T.b_Track___init__
  have G_Window___init__ : FnR P w K mg base (L2.CX P w) 3 A.f_Window___init__ (FnP K (clA A) 5 F_Window___init__) := FnOk.r0 (ok_Window___init__ T) T.b_Window___init__
  have G_chosen_cells : FnR P w K mg base (L2.CX P w) 5 A.f_chosen_cells (FnP K (clA A) 5 F_chosen_cells) := FnOk.r0 (ok_chosen_cells T) T.b_chosen_cells
  have G_number_form : FnR P w K mg base (L2.CX P w) 3 A.f_number_form (FnP K (clA A) 1 F_number_form) := FnOk.r0 (ok_number_form T) T.b_number_form
  refine T.F_Window_sliced.ok sc_Window_sliced fn_len (fun cdv Ar outer s H vs Q E hr h => ⟨StT (ec K (clA A)) (wE E) _, ?_, fn_body rfl (by decide) h⟩)
  exact (ss_seq (pss_cons (s_if (ps_if (ts_b (pt_cmpR op_is0 (ev_v (pv 3)) (ev_non pe_non) (nomark _)) os_is) (pss_one (s_set (ps_set (i := 3) sc_Window_sliced.nd rfl (.inl rfl) (ev_int pe_int)))) (ss_nil pss_nil)))
      (ss_seq (pss_cons (s_if (ps_if (ts_b (pt_cmpR (op_eqX (K := K) rfl (hu65 hr)) (ev_v (pv 3)) (ev_int pe_int) (nomark _)) (os_eqX rfl)) (pss_one (s_raiseX (ps_raiseX T.x_BadNumber (hr.mono (by decide)) rfl (takes_of rfl rfl rfl rfl) rfl (ar_cons (pa_cons (ev_int pe_int) (ar_nil pa_nil)))))) (ss_nil pss_nil)))
      (ss_seq (pss_cons (s_asg (ps_asg (ev_f (pe_callX G_chosen_cells (hr.mono (j := 5) (by decide)) rfl T.g_chosen_cells T.kp_chosen_cells (fun σ => passAt (takes_of rfl rfl rfl rfl) σ) (ar_cons (pa_cons (ev_mk0 (pe_makeX0 T.mk_Track G_Track___init__ (hr.mono (by decide)) rfl T.g_Track (fun σ => passAt (takes_of rfl rfl rfl rfl) σ))) (ar_cons (pa_cons (ev_f (pe_callX G_number_form (hr.mono (j := 3) (by decide)) rfl T.g_number_form T.kp_number_form (fun σ => passAt (takes_of rfl rfl rfl rfl) σ) (ar_cons (pa_cons (ev_fld (pe_fldK (K := K) rfl (ev_v (pv 0))) rfl (fc_count T)) (ar_nil pa_nil))))) (ar_cons (pa_cons (ev_v (pv 1)) (ar_cons (pa_cons (ev_v (pv 2)) (ar_cons (pa_cons (ev_v (pv 3)) (ar_nil pa_nil))))))))))))) (pg_tup rfl (pgs_cons (pg_name (i := 4) sc_Window_sliced.nd rfl (.inl rfl)) (pgs_cons (pg_name (i := 5) sc_Window_sliced.nd rfl (.inl rfl)) pgs_nil)))) (pat_tp (pats_cons (pats_cons pats_nil)) rfl rfl))
      (pss_one (s_ret (ps_ret (ev_mk (pe_makeX T.mk_Window G_Window___init__ (hr.mono (by decide)) rfl T.g_Window (fun σ => passAt (takes_of rfl rfl rfl rfl) σ) (ar_cons (pa_cons (ev_b (pe_op (op_addP (K := K) rfl) (ev_fld (pe_fldK (K := K) rfl (ev_v (pv 0))) rfl (fc_start T)) (ev_b (pe_op op_mulA (ev_fld (pe_fldK (K := K) rfl (ev_v (pv 4))) rfl (fc_alpha T)) (ev_fld (pe_fldK (K := K) rfl (ev_v (pv 0))) rfl (fc_step T))) os_mul)) (os_add rfl)) (ar_cons (pa_cons (ev_b (pe_op op_mulA (ev_fld (pe_fldK (K := K) rfl (ev_v (pv 0))) rfl (fc_step T)) (ev_v (pv 3))) os_mul) (ar_cons (pa_cons (ev_fld (pe_fldK (K := K) rfl (ev_v (pv 5))) rfl (fc_alpha T)) (ar_cons (pa_cons (ev_fld (pe_fldK (K := K) rfl (ev_v (pv 0))) rfl (fc_size T)) (ar_nil pa_nil))))))))))))))))))))
theorem sc_View_sliced : FnScope ["self", "first", "last", "step"] ["self", "first", "last", "step"] (defScope s_View_sliced) := ⟨rfl, rfl, rfl, by decide +kernel, rfl, by decide +kernel, by decide +kernel⟩
theorem ok_View_sliced (T : Txt P K mg A) : FnOk P w K mg base (L2.CX P w) 7 A.f_View_sliced A.d_View_sliced ["self", "first", "last", "step"] (FnP K (clA A) 4 F_View_sliced) := by
  have G_View___init__ : FnR P w K mg base (L2.CX P w) 1 A.f_View___init__ (FnP K (clA A) 5 F_View___init__) := FnOk.r0 (ok_View___init__ T) T.b_View___init__
  have G_View_check : FnR P w K mg base (L2.CX P w) 1 A.f_View_check (FnP K (clA A) 1 F_View_check) := FnOk.r0 (ok_View_check T) T.b_View_check
  obtain ⟨_, KB0⟩ := kbinds1 T.F_Window_sliced 4 [] (fun {_} us its ws => us) (by simp) (fun r1 r2 r3 => r1) (fun T kV doc pm an cdv ct us its ws l1 l2 l3 => match us, its, ws, l1, l2, l3 with | [_, _, _, _], [_, _, _], [], _, _, _ => ⟨_, rfl, by first | rfl | with_unfolding_all rfl | kernel_rfl⟩)
  refine T.F_View_sliced.ok sc_View_sliced fn_len (fun cdv Ar outer s H vs Q E hr h => ⟨StT (ec K (clA A)) (wE E) _, ?_, fn_body rfl (by decide) h⟩)
  exact (ss_seq (pss_cons (s_drop (ps_expr (ev_m0 (pe_methX0 (ev_v (pv 0)) T.cl_View T.mt_View_check G_View_check (hr.mono (j := 1) (by decide)) (fun σ => passAt (takes_of rfl rfl rfl rfl) σ)))))
      (pss_one (s_ret (ps_ret (ev_mk (pe_makeX T.mk_View G_View___init__ (hr.mono (by decide)) rfl T.g_View (fun σ => passAt (takes_of rfl rfl rfl rfl) σ) (ar_cons (pa_cons (ev_fld (pe_fldK (K := K) rfl (ev_v (pv 0))) rfl (fc_cells T)) (ar_cons (pa_cons (ev_mN (p := 4) (gD := (fun us ws => us)) (by exact (pe_methN (ks := []) (ev_fld (pe_fldK (K := K) rfl (ev_v (pv 0))) rfl (fc_window T)) T.cl_Window T.mt_Window_sliced (ok_Window_sliced T) (hr.mono (j := 6) (by decide)) KB0 (fun σ => passAt (takes_of rfl rfl rfl rfl) σ) (ar_cons (pa_cons (ev_v (pv 1)) (ar_cons (pa_cons (ev_v (pv 2)) (ar_cons (pa_cons (ev_v (pv 3)) (ar_nil pa_nil))))))) (ak_nil pk_nil))) (fun h1 h2 => h1) (by intro ds es h1 h2; simp [h1, h2])) (ar_cons (pa_cons (ev_fld (pe_fldK (K := K) rfl (ev_v (pv 0))) rfl (fc_locked T)) (ar_cons (pa_cons (ev_fld (pe_fldK (K := K) rfl (ev_v (pv 0))) rfl (fc_lent_out T)) (ar_nil pa_nil))))))))))))))))
theorem sc__law_draw : FnScope ["_law_pool", "_law_many", "_law_digit", "_law_cell", "_law_seed"] ["_law_pool", "_law_many"] (defScope s__law_draw) := ⟨rfl, rfl, rfl, by decide +kernel, rfl, by decide +kernel, by decide +kernel⟩
theorem ok__law_draw (T : Txt P K mg A) : FnOk P w K mg base (L2.CX P w) 1 A.f__law_draw A.d__law_draw ["_law_pool", "_law_many"] (FnP K (clA A) 2 F__law_draw) := by
  refine T.F__law_draw.okX sc__law_draw fn_len (fun cdv Ar outer s H vs Q E hr h => ⟨StT (ec K (clA A)) (wE E) _, ?_, fn_body rfl (by decide) h⟩)
  exact (ss_seq (pss_cons (s_sub (ps_asg (ev_b (pe_op (op_addP (K := K) rfl) (ev_b (pe_ix (ix_P (hu_of hr) (K := K) rfl) (ev_v (pv 0)) (ev_str pe_str) (fun _ _ => rfl)) (os_ix rfl)) (ev_int pe_int)) (os_add rfl)) (pg_sub (ev_v (pv 0)) (ev_str pe_str) (set_P (hu_of hr)))))
      (ss_seq (pss_cons (s_if (ps_if (ts_b (pt_cmpR op_gtP (ev_b (pe_ix (ix_P (hu_of hr) (K := K) rfl) (ev_v (pv 0)) (ev_str pe_str) (fun _ _ => rfl)) (os_ix rfl)) (ev_int pe_int) (nomark _)) os_gt) (ss_seq (pss_cons (s_set (ps_set (i := 2) sc__law_draw.nd rfl (.inl rfl) (ev_b (pe_op op_modZ (ev_k (pe_callTy call_intA (by rfl) T.z_int (by decide +kernel) (ar_cons (pa_cons (ev_b (pe_ix (ix_P (hu_of hr) (K := K) rfl) (ev_v (pv 0)) (ev_str pe_str) (fun _ _ => rfl)) (os_ix rfl)) (ar_nil pa_nil)))) cs_int) (ev_v (pv 1))) os_mod)))
      (ss_seq (pss_cons (s_sub (ps_asg (ev_b (pe_op op_fdivZ (ev_k (pe_callTy call_intA (by rfl) T.z_int (by decide +kernel) (ar_cons (pa_cons (ev_b (pe_ix (ix_P (hu_of hr) (K := K) rfl) (ev_v (pv 0)) (ev_str pe_str) (fun _ _ => rfl)) (os_ix rfl)) (ar_nil pa_nil)))) cs_int) (ev_v (pv 1))) os_fdiv) (pg_sub (ev_v (pv 0)) (ev_str pe_str) (set_P (hu_of hr)))))
      (pss_one (s_ret (ps_ret (ev_v (pv 2))))))))) (ss_nil pss_nil)))
      (ss_seq (pss_cons (s_set (ps_set (i := 3) sc__law_draw.nd rfl (.inl rfl) (ev_b (pe_ix (ix_P (hu_of hr) (K := K) rfl) (ev_b (pe_op (op_addP (K := K) rfl) (ev_sl (pe_slice (sl_P (K := K) rfl) (ev_b (pe_ix (ix_P (hu_of hr) (K := K) rfl) (ev_v (pv 0)) (ev_str pe_str) (fun _ _ => rfl)) (os_ix rfl)) (po_e (po_someN (ev_b (pe_ix (ix_P (hu_of hr) (K := K) rfl) (ev_v (pv 0)) (ev_str pe_str) (fun _ _ => rfl)) (os_ix rfl)))) (po_n po_none)) rfl) (ev_lst (pe_lst (ar_cons (pa_cons (ev_int pe_int) (ar_nil pa_nil)))))) (os_add rfl)) (ev_int pe_int) (fun _ _ => rfl)) (os_ix rfl))))
      (ss_seq (pss_cons (s_sub (ps_asg (ev_b (pe_op (op_addP (K := K) rfl) (ev_b (pe_ix (ix_P (hu_of hr) (K := K) rfl) (ev_v (pv 0)) (ev_str pe_str) (fun _ _ => rfl)) (os_ix rfl)) (ev_int pe_int)) (os_add rfl)) (pg_sub (ev_v (pv 0)) (ev_str pe_str) (set_P (hu_of hr)))))
      (ss_seq (pss_cons (s_if (ps_if (ts_b (pt_cmpR op_geP (ev_v (pv 3)) (ev_b (pe_op op_powI (ev_int pe_int) (ev_int pe_int)) os_pow) (nomark _)) os_ge) (ss_seq (pss_cons (s_sub (ps_asg (ev_b (pe_op op_fdivZ (ev_k (pe_callTy call_intA (by rfl) T.z_int (by decide +kernel) (ar_cons (pa_cons (ev_v (pv 3)) (ar_nil pa_nil)))) cs_int) (ev_v (pv 1))) os_fdiv) (pg_sub (ev_v (pv 0)) (ev_str pe_str) (set_P (hu_of hr)))))
      (pss_one (s_ret (ps_ret (ev_b (pe_op op_modZ (ev_k (pe_callTy call_intA (by rfl) T.z_int (by decide +kernel) (ar_cons (pa_cons (ev_v (pv 3)) (ar_nil pa_nil)))) cs_int) (ev_v (pv 1))) os_mod)))))) (ss_nil pss_nil)))
      (ss_seq (pss_cons (s_set (ps_set (i := 4) sc__law_draw.nd rfl (.inl rfl) (ev_b (pe_op (op_addP (K := K) rfl) (ev_b (pe_op op_mulA (ev_b (pe_ix (ix_P (hu_of hr) (K := K) rfl) (ev_v (pv 0)) (ev_str pe_str) (fun _ _ => rfl)) (os_ix rfl)) (ev_int pe_int)) os_mul) (ev_b (pe_op op_mulA (ev_int pe_int) (ev_b (pe_ix (ix_P (hu_of hr) (K := K) rfl) (ev_v (pv 0)) (ev_str pe_str) (fun _ _ => rfl)) (os_ix rfl))) os_mul)) (os_add rfl))))
      (ss_seq (pss_cons (s_set (ps_set (i := 4) sc__law_draw.nd rfl (.inl rfl) (ev_b (pe_op op_modZ (ev_k (pe_callTy call_intA (by rfl) T.z_int (by decide +kernel) (ar_cons (pa_cons (ev_b (pe_op (op_addP (K := K) rfl) (ev_v (pv 4)) (ev_b (pe_op op_modZ (ev_k (pe_callTy call_intA (by rfl) T.z_int (by decide +kernel) (ar_cons (pa_cons (ev_v (pv 3)) (ar_nil pa_nil)))) cs_int) (ev_int pe_int)) os_mod)) (os_add rfl)) (ar_nil pa_nil)))) cs_int) (ev_int pe_int)) os_mod)))
      (ss_seq (pss_cons (s_set (ps_set (i := 4) sc__law_draw.nd rfl (.inl rfl) (ev_b (pe_op op_modZ (ev_k (pe_callTy call_intA (by rfl) T.z_int (by decide +kernel) (ar_cons (pa_cons (ev_b (pe_op op_mulA (ev_v (pv 4)) (ev_b (pe_op (op_addP (K := K) rfl) (ev_b (pe_op op_fdivZ (ev_v (pv 4)) (ev_int pe_int)) os_fdiv) (ev_int pe_int)) (os_add rfl))) os_mul) (ar_nil pa_nil)))) cs_int) (ev_int pe_int)) os_mod)))
      (ss_seq (pss_cons (s_sub (ps_asg (ev_v (pv 4)) (pg_sub (ev_v (pv 0)) (ev_str pe_str) (set_P (hu_of hr)))))
      (ss_seq (pss_cons (s_set (ps_set (i := 4) sc__law_draw.nd rfl (.inl rfl) (ev_b (pe_op op_modZ (ev_k (pe_callTy call_intA (by rfl) T.z_int (by decide +kernel) (ar_cons (pa_cons (ev_b (pe_op op_mulA (ev_v (pv 4)) (ev_b (pe_op (op_addP (K := K) rfl) (ev_b (pe_op op_fdivZ (ev_v (pv 4)) (ev_int pe_int)) os_fdiv) (ev_int pe_int)) (os_add rfl))) os_mul) (ar_nil pa_nil)))) cs_int) (ev_int pe_int)) os_mod)))
      (pss_one (s_ret (ps_ret (ev_b (pe_op op_modZ (ev_k (pe_callTy call_intA (by rfl) T.z_int (by decide +kernel) (ar_cons (pa_cons (ev_b (pe_op op_fdivZ (ev_v (pv 4)) (ev_int pe_int)) os_fdiv) (ar_nil pa_nil)))) cs_int) (ev_v (pv 1))) os_mod))))))))))))))))))))))))
theorem sc__law_value : FnScope ["_law_parts", "_law_value_here", "_law_k"] ["_law_parts"] (defScope s__law_value) := ⟨rfl, rfl, rfl, by decide +kernel, rfl, by decide +kernel, by decide +kernel⟩
theorem ok__law_value (T : Txt P K mg A) : FnOk P w K mg base (L2.CX P w) 1 A.f__law_value A.d__law_value ["_law_parts"] (FnP K (clA A) 1 F__law_value) := by
  refine T.F__law_value.okX sc__law_value fn_len (fun cdv Ar outer s H vs Q E hr h => ⟨StT (ec K (clA A)) (wE E) _, ?_, fn_body rfl (by decide) h⟩)
  exact (ss_seq (pss_cons (s_set (ps_set (i := 1) sc__law_value.nd rfl (.inl rfl) (ev_int pe_int)))
      (ss_seq (pss_cons (s_for (ps_for (passes_of rfl) rfl (it_r1 (pi_range1 rfl T.z_range (ar_cons (pa_cons (ev_k (pe_callB (call_lenP (K := K) rfl) (by rfl) T.z_len (by decide +kernel) (ar_cons (pa_cons (ev_v (pv 0)) (ar_nil pa_nil)))) (cs_len rfl)) (ar_nil pa_nil))))) (pg_name (i := 2) sc__law_value.nd rfl (.inl rfl)) (pss_one (s_set (ps_set (i := 1) sc__law_value.nd rfl (.inl rfl) (ev_b (pe_op (op_addP (K := K) rfl) (ev_b (pe_op op_mulA (ev_v (pv 1)) (ev_int pe_int)) os_mul) (ev_b (pe_ix (ix_P (hu_of hr) (K := K) rfl) (ev_v (pv 0)) (ev_b (pe_op op_subI (ev_b (pe_op op_subI (ev_k (pe_callB (call_lenP (K := K) rfl) (by rfl) T.z_len (by decide +kernel) (ar_cons (pa_cons (ev_v (pv 0)) (ar_nil pa_nil)))) (cs_len rfl)) (ev_int pe_int)) os_sub) (ev_v (pv 2))) os_sub) (fun _ _ => rfl)) (os_ix rfl))) (os_add rfl)))))) pat_nm)
      (pss_one (s_ret (ps_ret (ev_v (pv 1)))))))))
theorem sc_View_value_at : FnScope ["self", "at", "value", "place"] ["self", "at"] (defScope s_View_value_at) := ⟨rfl, rfl, rfl, by decide +kernel, rfl, by decide +kernel, by decide +kernel⟩
theorem ok_View_value_at (T : Txt P K mg A) : FnOk P w K mg base (L2.CX P w) 2 A.f_View_value_at A.d_View_value_at ["self", "at"] (FnP K (clA A) 2 F_View_value_at) := by
  have G_View_places_of : FnR P w K mg base (L2.CX P w) 1 A.f_View_places_of (FnP K (clA A) 2 F_View_places_of) := FnOk.r0 (ok_View_places_of T) T.b_View_places_of
  refine T.F_View_value_at.okX sc_View_value_at fn_len (fun cdv Ar outer s H vs Q E hr h => ⟨StT (ec K (clA A)) (wE E) _, ?_, fn_body rfl (by decide) h⟩)
  exact (ss_seq (pss_cons (s_set (ps_set (i := 2) sc_View_value_at.nd rfl (.inl rfl) (ev_int pe_int)))
      (ss_seq (pss_cons (s_for (ps_for (passes_of rfl) rfl (it_rev (RT.pi_revA (by rfl) T.z_reversed (ev_k (pe_callTy (call_listP rfl (K := K) rfl) (by rfl) T.z_list (by decide +kernel) (ar_cons (pa_cons (ev_m (pe_methX (ev_v (pv 0)) T.cl_View T.mt_View_places_of G_View_places_of (hr.mono (j := 1) (by decide)) (fun σ => passAt (takes_of rfl rfl rfl rfl) σ) (ar_cons (pa_cons (ev_v (pv 1)) (ar_nil pa_nil))))) (ar_nil pa_nil)))) (cs_list rfl))) rfl) (pg_name (i := 3) sc_View_value_at.nd rfl (.inl rfl)) (pss_one (s_set (ps_set (i := 2) sc_View_value_at.nd rfl (.inl rfl) (ev_b (pe_op (op_addP (K := K) rfl) (ev_b (pe_op op_mulA (ev_v (pv 2)) (ev_int pe_int)) os_mul) (ev_b (pe_ix (ix_P (hu_of hr) (K := K) rfl) (ev_fld (pe_fldK (K := K) rfl (ev_v (pv 0))) rfl (fc_cells T)) (ev_v (pv 3)) (fun _ _ => rfl)) (os_ix rfl))) (os_add rfl)))))) pat_nm)
      (pss_one (s_ret (ps_ret (ev_v (pv 2)))))))))
theorem sc_View_listed : FnScope ["self", "at"] ["self"] (defScope s_View_listed) := ⟨rfl, rfl, rfl, by decide +kernel, rfl, by decide +kernel, by decide +kernel⟩
theorem ok_View_listed (T : Txt P K mg A) : FnOk P w K mg base (L2.CX P w) 3 A.f_View_listed A.d_View_listed ["self"] (FnP K (clA A) 1 F_View_listed) := by
  have G_View_check : FnR P w K mg base (L2.CX P w) 1 A.f_View_check (FnP K (clA A) 1 F_View_check) := FnOk.r0 (ok_View_check T) T.b_View_check
  have G_View_value_at : FnR P w K mg base (L2.CX P w) 2 A.f_View_value_at (FnP K (clA A) 2 F_View_value_at) := FnOk.r0 (ok_View_value_at T) T.b_View_value_at
  refine T.F_View_listed.okX sc_View_listed fn_len (fun cdv Ar outer s H vs Q E hr h => ⟨StT (ec K (clA A)) (wE E) _, ?_, fn_body rfl (by decide) h⟩)
  exact (ss_seq (pss_cons (s_drop (ps_expr (ev_m0 (pe_methX0 (ev_v (pv 0)) T.cl_View T.mt_View_check G_View_check (hr.mono (j := 1) (by decide)) (fun σ => passAt (takes_of rfl rfl rfl rfl) σ)))))
      (pss_one (s_ret (ps_ret (ev_lcY (pe_lc (own := [("at", 1)]) (g := gName 1) (tt := tYes) (by rfl) sc_View_listed.nd (it_r1 (pi_range1 rfl T.z_range (ar_cons (pa_cons (ev_fld (pe_fldK (K := K) rfl (ev_fld (pe_fldK (K := K) rfl (ev_v (pv 0))) rfl (fc_window T))) rfl (fc_count T)) (ar_nil pa_nil))))) (blkOk_by (own := [("at", 1)]) (N := ["self", "at"]) (sc := defScope s_View_listed) (by decide +kernel)) (fun _ _ _ _ _ => (pg_name (i := 1) sc_View_listed.nd rfl (Or.inl rfl))) (fun _ _ _ _ _ => pts_nil) (fun _ _ _ _ _ => (ev_m (pe_methX (ev_v (pv 0)) T.cl_View T.mt_View_value_at G_View_value_at (hr.mono (j := 2) (by decide)) (fun σ => passAt takes0 σ) (ar_cons (pa_cons (ev_v (pv 1)) (ar_nil pa_nil))))))) pat_nm (by decide)))))))
theorem sc_View___eq__ : FnScope ["self", "other"] ["self", "other"] (defScope s_View___eq__) := ⟨rfl, rfl, rfl, by decide +kernel, rfl, by decide +kernel, by decide +kernel⟩
theorem ok_View___eq__ (T : Txt P K mg A) : FnOk P w K mg base (L2.CX P w) 4 A.f_View___eq__ A.d_View___eq__ ["self", "other"] (FnP K (clA A) 2 F_View___eq__) := by
  have G_View_listed : FnR P w K mg base (L2.CX P w) 3 A.f_View_listed (FnP K (clA A) 1 F_View_listed) := FnOk.r0 (ok_View_listed T) T.b_View_listed
  refine T.F_View___eq__.okX sc_View___eq__ fn_len (fun cdv Ar outer s H vs Q E hr h => ⟨StT (ec K (clA A)) (wE E) _, ?_, fn_body rfl (by decide) h⟩)
  exact (ss_seq (pss_cons (s_if (ps_if (PW.pt (tw_or (pw_or (ts_not (pt_not (ts_e (pt_val (ev_isiOwn (C := 14) (os := io_os_View) (pe_callB (call_isiK' (K := K) rfl) (by rfl) T.z_isinstance (by decide +kernel) (pa_cons (ev_v (pv 1)) (pa_cons (pe_glob (by rfl) T.g_View (v := .ref A.c_View) rfl) pa_nil))) rfl T.ic_View (ioo_View T) (io_View T)) (by intro _; rfl))))) (tw_or (pw_or (ts_e (pt_val (ev_fld (pe_fldK (K := K) rfl (ev_v (pv 0))) rfl (fc_closed T)) (by intro _; rfl))) (pw_or1 (ts_e (pt_val (ev_fld (pe_fldK (K := K) rfl (ev_v (pv 1))) rfl (fc_closed T)) (by intro _; rfl))))))))) (pss_one (s_ret (ps_ret (ev_bl pe_bl)))) (ss_nil pss_nil)))
      (pss_one (s_ret (ps_ret (ev_and (pe_and (ev_b (pe_cmpR (op_eqX (K := K) rfl (hu65 hr)) (ev_fld (pe_fldK (K := K) rfl (ev_v (pv 0))) rfl (fc_size T)) (ev_fld (pe_fldK (K := K) rfl (ev_v (pv 1))) rfl (fc_size T)) (nomark _)) (os_eqX rfl)) (pe_one (ev_b (pe_cmpR (op_eqX (K := K) rfl (hu65 hr)) (ev_m0 (pe_methX0 (ev_v (pv 0)) T.cl_View T.mt_View_listed G_View_listed (hr.mono (j := 3) (by decide)) (fun σ => passAt (takes_of rfl rfl rfl rfl) σ))) (ev_m0 (pe_methX0 (ev_v (pv 1)) T.cl_View T.mt_View_listed G_View_listed (hr.mono (j := 3) (by decide)) (fun σ => passAt (takes_of rfl rfl rfl rfl) σ))) (nomark _)) (os_eqX rfl))))))))))
theorem sc__law_flag : FnScope ["_law_flag_here", "_law_due"] ["_law_flag_here", "_law_due"] (defScope s__law_flag) := ⟨rfl, rfl, rfl, by decide +kernel, rfl, by decide +kernel, by decide +kernel⟩
theorem ok__law_flag (T : Txt P K mg A) : FnOk P w K mg base (L2.CX P w) 1 A.f__law_flag A.d__law_flag ["_law_flag_here", "_law_due"] (FnP K (clA A) 2 F__law_flag) := by
  refine T.F__law_flag.okX sc__law_flag fn_len (fun cdv Ar outer s H vs Q E hr h => ⟨StT (ec K (clA A)) (wE E) _, ?_, fn_body rfl (by decide) h⟩)
  exact (pss_one (s_ret (ps_ret (ev_and (pe_and (ev_isi (t := .bool) (pe_callB (call_isiK' (K := K) rfl) (by rfl) T.z_isinstance (by decide +kernel) (pa_cons (ev_v (pv 0)) (pa_cons (pe_bltn (v := .ty "bool") (by rfl) T.z_bool (by decide +kernel) rfl) pa_nil))) rfl) (pe_one (ev_b (pe_cmpR (op_eqX (K := K) rfl (hu65 hr)) (ev_v (pv 0)) (ev_v (pv 1)) (nomark _)) (os_eqX rfl))))))))
theorem sc_Store_listed : FnScope ["self"] ["self"] (defScope s_Store_listed) := ⟨rfl, rfl, rfl, by decide +kernel, rfl, by decide +kernel, by decide +kernel⟩
theorem ok_Store_listed (T : Txt P K mg A) : FnOk P w K mg base (L2.CX P w) 1 A.f_Store_listed A.d_Store_listed ["self"] (FnP K (clA A) 1 F_Store_listed) := by
  refine T.F_Store_listed.okX sc_Store_listed fn_len (fun cdv Ar outer s H vs Q E hr h => ⟨StT (ec K (clA A)) (wE E) _, ?_, fn_body rfl (by decide) h⟩)
  exact (pss_one (s_ret (ps_ret (ev_k (pe_callTy (call_listP rfl (K := K) rfl) (by rfl) T.z_list (by decide +kernel) (ar_cons (pa_cons (ev_fld (pe_fldK (K := K) rfl (ev_v (pv 0))) rfl (fc_cells T)) (ar_nil pa_nil)))) (cs_list rfl)))))
theorem sc_View___len__ : FnScope ["self", "at"] ["self"] (defScope s_View___len__) := ⟨rfl, rfl, rfl, by decide +kernel, rfl, by decide +kernel, by decide +kernel⟩
theorem ok_View___len__ (T : Txt P K mg A) : FnOk P w K mg base (L2.CX P w) 1 A.f_View___len__ A.d_View___len__ ["self"] (FnP K (clA A) 1 F_View___len__) := by
  refine T.F_View___len__.okX sc_View___len__ fn_len (fun cdv Ar outer s H vs Q E hr h => ⟨StT (ec K (clA A)) (wE E) _, ?_, fn_body rfl (by decide) h⟩)
  exact (ss_seq (pss_cons (s_if (ps_if (ts_e (pt_val (ev_fld (pe_fldK (K := K) rfl (ev_v (pv 0))) rfl (fc_closed T)) (by intro _; rfl))) (pss_one (s_raiseY (ps_raiseY0 T.y_Gone rfl (takes_of rfl rfl rfl rfl) rfl))) (ss_nil pss_nil)))
      (pss_one (s_ret (ps_ret (ev_k (pe_callB (call_lenP (K := K) rfl) (by rfl) T.z_len (by decide +kernel) (ar_cons (pa_cons (ev_lcY (pe_lc (own := [("at", 1)]) (g := gName 1) (tt := tYes) (by rfl) sc_View___len__.nd (it_r1 (pi_range1 rfl T.z_range (ar_cons (pa_cons (ev_fld (pe_fldK (K := K) rfl (ev_fld (pe_fldK (K := K) rfl (ev_v (pv 0))) rfl (fc_window T))) rfl (fc_count T)) (ar_nil pa_nil))))) (blkOk_by (own := [("at", 1)]) (N := ["self", "at"]) (sc := defScope s_View___len__) (by decide +kernel)) (fun _ _ _ _ _ => (pg_name (i := 1) sc_View___len__.nd rfl (Or.inl rfl))) (fun _ _ _ _ _ => pts_nil) (fun _ _ _ _ _ => (ev_v (pv 1)))) pat_nm (by decide)) (ar_nil pa_nil)))) (cs_len rfl)))))))
end
end LbW
namespace LbW
open PySem PySem.Spec PyProof.Rows L2 Lb Pu
section
variable {P : Program} {w : World} {K : PySem.W.Frag} {mg : Str → Option Value} {base : Heap} {A : Ad}
theorem sc__law_first : FnScope ["_law_view"] ["_law_view"] (defScope s__law_first) := ⟨rfl, rfl, rfl, by decide +kernel, rfl, by decide +kernel, by decide +kernel⟩
theorem ok__law_first (T : Txt P K mg A) : FnOk P w K mg base (L2.CX P w) 5 A.f__law_first A.d__law_first ["_law_view"] (FnP K (clA A) 1 F__law_first) := by
  have G_View___len__ : FnR P w K mg base (L2.CX P w) 1 A.f_View___len__ (FnP K (clA A) 1 F_View___len__) := FnOk.r0 (ok_View___len__ T) T.b_View___len__
  have G_View___setitem__ : FnR P w K mg base (L2.CX P w) 4 A.f_View___setitem__ (FnP K (clA A) 3 F_View___setitem__) := FnOk.r0 (ok_View___setitem__ T) T.b_View___setitem__
  refine T.F__law_first.okX sc__law_first fn_len (fun cdv Ar outer s H vs Q E hr h => ⟨StT (ec K (clA A)) (wE E) _, ?_, fn_body rfl (by decide) h⟩)
  exact (ss_seq (pss_cons (s_subOwnX (ps_asg (ev_int pe_int) (pg_subOwnX (ev_v (pv 0)) (ev_int pe_int) T.o_View___setitem__ T.ns_View G_View___setitem__ (hr.mono (j := 4) (by decide)) (fun σ => passAt (takes_of rfl rfl rfl rfl) σ))))
      (pss_one (s_ret (ps_ret (ev_lst (pe_lst (ar_cons (pa_cons (ev_v (pv 0)) (ar_cons (pa_cons (ev_lenOwnX (pe_lenOwnX (ar_cons (pa_cons (ev_v (pv 0)) (ar_nil pa_nil))) (by rfl) T.z_len T.o_View___len__ G_View___len__ (hr.mono (by decide)) (fun σ => passAt (takes_of rfl rfl rfl rfl) σ))) (ar_nil pa_nil))))))))))))
theorem sc_View_during__0 : FnScope ["self", "deed"] ["self", "deed"] (defScope s_View_during) := ⟨rfl, rfl, rfl, by decide +kernel, rfl, by decide +kernel, by decide +kernel⟩
theorem ok_View_during__0 (T : Txt P K mg A) : FnOk P w K mg base (L2.CX P w) 6 A.f_View_during A.d_View_during ["self", "deed"] (FnP1 K (clA A) 1 A.f__law_first F_View_during__0) := by
  have G_View_check : FnR P w K mg base (L2.CX P w) 1 A.f_View_check (FnP K (clA A) 1 F_View_check) := FnOk.r0 (ok_View_check T) T.b_View_check
  have G__law_first : FnR P w K mg base (L2.CX P w) 5 A.f__law_first (FnP K (clA A) 1 F__law_first) := FnOk.r0 (ok__law_first T) T.b__law_first
  refine T.F_View_during.okX sc_View_during__0 fn_len1 (fun cdv Ar outer s H vs Q E hr h => ⟨StT ⟨K, clA A, [⟨A.f__law_first, 0, none, none⟩]⟩ (wE E) _, ?_, fn_body1 rfl h⟩)
  exact (ss_seq (pss_cons (s_drop (ps_expr (ev_m0 (pe_methX0 (ev_v (pv 0)) T.cl_View T.mt_View_check G_View_check (hr.mono (j := 1) (by decide)) (fun σ => passAt (takes_of rfl rfl rfl rfl) σ)))))
      (pss_one (s_retFinX (ps_retFinX rfl rfl rfl (takes_of rfl rfl rfl rfl) (fun W pn xe tk1 _ => (ev_callLX (pe_callLX (i := 1) G__law_first (hr.mono (j := 5) (by decide)) rfl (.inl rfl) T.kp__law_first (fun σ => passAt tk1 σ) (ar_cons (pa_cons (ev_v (pv 0)) (ar_nil pa_nil)))) ⟨_, rfl, rfl⟩)) (pss_one (s_fld (ps_fld (ev_v (pv 0)) (ev_bl pe_bl) rfl) rfl (fc_closed T))) (fun a pn => (pss_one (s_fld (ps_fld (ev_v (pv 0)) (ev_bl pe_bl) rfl) rfl (fc_closed T)))))))))
theorem sc__law_raises : FnScope ["_law_view"] ["_law_view"] (defScope s__law_raises) := ⟨rfl, rfl, rfl, by decide +kernel, rfl, by decide +kernel, by decide +kernel⟩
theorem ok__law_raises (T : Txt P K mg A) : FnOk P w K mg base (L2.CX P w) 5 A.f__law_raises A.d__law_raises ["_law_view"] (FnP K (clA A) 1 F__law_raises) := by
  have G_View___setitem__ : FnR P w K mg base (L2.CX P w) 4 A.f_View___setitem__ (FnP K (clA A) 3 F_View___setitem__) := FnOk.r0 (ok_View___setitem__ T) T.b_View___setitem__
  refine T.F__law_raises.okX sc__law_raises fn_len (fun cdv Ar outer s H vs Q E hr h => ⟨StT (ec K (clA A)) (wE E) _, ?_, fn_body rfl (by decide) h⟩)
  exact (ss_seq (pss_cons (s_subOwnX (ps_asg (ev_int pe_int) (pg_subOwnX (ev_v (pv 0)) (ev_u (pe_un un_negI (ev_int pe_int)) us_neg) T.o_View___setitem__ T.ns_View G_View___setitem__ (hr.mono (j := 4) (by decide)) (fun σ => passAt (takes_of rfl rfl rfl rfl) σ))))
      (pss_one (s_raiseB (C := 1000) (ps_raiseK rfl (takes_of rfl rfl rfl rfl) excClass_KeyError ty_KeyError (by rfl) T.z_KeyError boot_KeyError)))))
theorem sc_View_during__1 : FnScope ["self", "deed"] ["self", "deed"] (defScope s_View_during) := ⟨rfl, rfl, rfl, by decide +kernel, rfl, by decide +kernel, by decide +kernel⟩
theorem ok_View_during__1 (T : Txt P K mg A) : FnOk P w K mg base (L2.CX P w) 6 A.f_View_during A.d_View_during ["self", "deed"] (FnP1 K (clA A) 1 A.f__law_raises F_View_during__1) := by
  have G_View_check : FnR P w K mg base (L2.CX P w) 1 A.f_View_check (FnP K (clA A) 1 F_View_check) := FnOk.r0 (ok_View_check T) T.b_View_check
  have G__law_raises : FnR P w K mg base (L2.CX P w) 5 A.f__law_raises (FnP K (clA A) 1 F__law_raises) := FnOk.r0 (ok__law_raises T) T.b__law_raises
  refine T.F_View_during.okX sc_View_during__1 fn_len1 (fun cdv Ar outer s H vs Q E hr h => ⟨StT ⟨K, clA A, [⟨A.f__law_raises, 0, none, none⟩]⟩ (wE E) _, ?_, fn_body1 rfl h⟩)
  exact (ss_seq (pss_cons (s_drop (ps_expr (ev_m0 (pe_methX0 (ev_v (pv 0)) T.cl_View T.mt_View_check G_View_check (hr.mono (j := 1) (by decide)) (fun σ => passAt (takes_of rfl rfl rfl rfl) σ)))))
      (pss_one (s_retFinX (ps_retFinX rfl rfl rfl (takes_of rfl rfl rfl rfl) (fun W pn xe tk1 _ => (ev_callLX (pe_callLX (i := 1) G__law_raises (hr.mono (j := 5) (by decide)) rfl (.inl rfl) T.kp__law_raises (fun σ => passAt tk1 σ) (ar_cons (pa_cons (ev_v (pv 0)) (ar_nil pa_nil)))) ⟨_, rfl, rfl⟩)) (pss_one (s_fld (ps_fld (ev_v (pv 0)) (ev_bl pe_bl) rfl) rfl (fc_closed T))) (fun a pn => (pss_one (s_fld (ps_fld (ev_v (pv 0)) (ev_bl pe_bl) rfl) rfl (fc_closed T)))))))))
theorem sc_Store_view : FnScope ["self"] ["self"] (defScope s_Store_view) := ⟨rfl, rfl, rfl, by decide +kernel, rfl, by decide +kernel, by decide +kernel⟩
theorem ok_Store_view (T : Txt P K mg A) : FnOk P w K mg base (L2.CX P w) 5 A.f_Store_view A.d_Store_view ["self"] (FnP K (clA A) 1 F_Store_view) := by
  have G_View___init__ : FnR P w K mg base (L2.CX P w) 1 A.f_View___init__ (FnP K (clA A) 5 F_View___init__) := FnOk.r0 (ok_View___init__ T) T.b_View___init__
  have G_Window___init__ : FnR P w K mg base (L2.CX P w) 3 A.f_Window___init__ (FnP K (clA A) 5 F_Window___init__) := FnOk.r0 (ok_Window___init__ T) T.b_Window___init__
  refine T.F_Store_view.okX sc_Store_view fn_len (fun cdv Ar outer s H vs Q E hr h => ⟨StT (ec K (clA A)) (wE E) _, ?_, fn_body rfl (by decide) h⟩)
  exact (pss_one (s_ret (ps_ret (ev_mk (pe_makeX T.mk_View G_View___init__ (hr.mono (by decide)) rfl T.g_View (fun σ => passAt (takes_of rfl rfl rfl rfl) σ) (ar_cons (pa_cons (ev_fld (pe_fldK (K := K) rfl (ev_v (pv 0))) rfl (fc_cells T)) (ar_cons (pa_cons (ev_mk (pe_makeX T.mk_Window G_Window___init__ (hr.mono (by decide)) rfl T.g_Window (fun σ => passAt (takes_of rfl rfl rfl rfl) σ) (ar_cons (pa_cons (ev_int pe_int) (ar_cons (pa_cons (ev_int pe_int) (ar_cons (pa_cons (ev_k (pe_callB (call_lenP (K := K) rfl) (by rfl) T.z_len (by decide +kernel) (ar_cons (pa_cons (ev_fld (pe_fldK (K := K) rfl (ev_v (pv 0))) rfl (fc_cells T)) (ar_nil pa_nil)))) (cs_len rfl)) (ar_cons (pa_cons (ev_int pe_int) (ar_nil pa_nil))))))))))) (ar_cons (pa_cons (ev_bl pe_bl) (ar_cons (pa_cons (ev_fld (pe_fldK (K := K) rfl (ev_v (pv 0))) rfl (fc_lent_out T)) (ar_nil pa_nil))))))))))))))
theorem sc_Store_lent : FnScope ["self", "one"] ["self"] (defScope s_Store_lent) := ⟨rfl, rfl, rfl, by decide +kernel, rfl, by decide +kernel, by decide +kernel⟩
theorem ok_Store_lent (T : Txt P K mg A) : FnOk P w K mg base (L2.CX P w) 1 A.f_Store_lent A.d_Store_lent ["self"] (FnP K (clA A) 1 F_Store_lent) := by
  refine T.F_Store_lent.okX sc_Store_lent fn_len (fun cdv Ar outer s H vs Q E hr h => ⟨StT (ec K (clA A)) (wE E) _, ?_, fn_body rfl (by decide) h⟩)
  exact (pss_one (s_ret (ps_ret (ev_k (pe_callB (call_lenP (K := K) rfl) (by rfl) T.z_len (by decide +kernel) (ar_cons (pa_cons (ev_lc (pe_lc (own := [("one", 1)]) (g := gName 1) (by rfl) sc_Store_lent.nd (it_seq (pi_seq (ev_fld (pe_fldK (K := K) rfl (ev_v (pv 0))) rfl (fc_lent_out T)) (K := K) rfl) rfl) (blkOk_by (own := [("one", 1)]) (N := ["self", "one"]) (sc := defScope s_Store_lent) (by decide +kernel)) (fun _ _ _ _ _ => (pg_name (i := 1) sc_Store_lent.nd rfl (Or.inl rfl))) (fun _ _ _ _ _ => (pts_one (ts_not (pt_not (ts_e (pt_val (ev_fld (pe_fldK (K := K) rfl (ev_v (pv 1))) rfl (fc_closed T)) (by intro _; rfl))))))) (fun _ _ _ _ _ => (ev_v (pv 1)))) pat_nm (by decide)) (ar_nil pa_nil)))) (cs_len rfl)))))
theorem sc_Store_check_free : FnScope ["self"] ["self"] (defScope s_Store_check_free) := ⟨rfl, rfl, rfl, by decide +kernel, rfl, by decide +kernel, by decide +kernel⟩
theorem ok_Store_check_free (T : Txt P K mg A) : FnOk P w K mg base (L2.CX P w) 2 A.f_Store_check_free A.d_Store_check_free ["self"] (FnP K (clA A) 1 F_Store_check_free) := by
  have G_Store_lent : FnR P w K mg base (L2.CX P w) 1 A.f_Store_lent (FnP K (clA A) 1 F_Store_lent) := FnOk.r0 (ok_Store_lent T) T.b_Store_lent
  refine T.F_Store_check_free.okX sc_Store_check_free fn_len (fun cdv Ar outer s H vs Q E hr h => ⟨StT (ec K (clA A)) (wE E) _, ?_, fn_body rfl (by decide) h⟩)
  exact (pss_one (s_if (ps_if (ts_b (pt_cmpR op_gtP (ev_m0 (pe_methX0 (ev_v (pv 0)) T.cl_Store T.mt_Store_lent G_Store_lent (hr.mono (j := 1) (by decide)) (fun σ => passAt (takes_of rfl rfl rfl rfl) σ))) (ev_int pe_int) (nomark _)) os_gt) (pss_one (s_raiseY (ps_raiseY0 T.y_Held rfl (takes_of rfl rfl rfl rfl) rfl))) (ss_nil pss_nil))))
theorem sc_Store_grow : FnScope ["self", "count"] ["self", "count"] (defScope s_Store_grow) := ⟨rfl, rfl, rfl, by decide +kernel, rfl, by decide +kernel, by decide +kernel⟩
theorem ok_Store_grow (T : Txt P K mg A) : FnOk P w K mg base (L2.CX P w) 3 A.f_Store_grow A.d_Store_grow ["self", "count"] (FnP K (clA A) 2 F_Store_grow) := by
  have G_Store_check_free : FnR P w K mg base (L2.CX P w) 2 A.f_Store_check_free (FnP K (clA A) 1 F_Store_check_free) := FnOk.r0 (ok_Store_check_free T) T.b_Store_check_free
  refine T.F_Store_grow.okX sc_Store_grow fn_len (fun cdv Ar outer s H vs Q E hr h => ⟨StT (ec K (clA A)) (wE E) _, ?_, fn_body rfl (by decide) h⟩)
  exact (pss_one (s_if (ps_if (ts_b (pt_cmpR op_gtP (ev_v (pv 1)) (ev_int pe_int) (nomark _)) os_gt) (ss_seq (pss_cons (s_drop (ps_expr (ev_m0 (pe_methX0 (ev_v (pv 0)) T.cl_Store T.mt_Store_check_free G_Store_check_free (hr.mono (j := 2) (by decide)) (fun σ => passAt (takes_of rfl rfl rfl rfl) σ)))))
      (pss_one (s_drop (ps_expr (ev_bm (pe_bm PySem.F.plainAttrs_list PySem.F.slot_list_extend PySem.F.type_list_extend mt_extend (ev_fld (pe_fldK (K := K) rfl (ev_v (pv 0))) rfl (fc_cells T)) (ar_cons (pa_cons (ev_b (pe_op op_mulA (ev_lst (pe_lst (ar_cons (pa_cons (ev_int pe_int) (ar_nil pa_nil))))) (ev_v (pv 1))) os_mul) (ar_nil pa_nil)))) rfl ty_lst ms_extend)))))) (ss_nil pss_nil))))
theorem sc__law_grows : FnScope ["_law_view", "_law_store", "_law_keep"] ["_law_view"] (defScope s__law_grows) := ⟨rfl, rfl, rfl, by decide +kernel, rfl, by decide +kernel, by decide +kernel⟩
theorem ok__law_grows (T : Txt P K mg A) : FnOk P w K mg base (L2.CX P w) 6 A.f__law_grows A.d__law_grows ["_law_view"] (FnP K (clA A) 1 F__law_grows) := by
  have G_Store___init__ : FnR P w K mg base (L2.CX P w) 3 A.f_Store___init__ (FnP K (clA A) 2 F_Store___init__) := FnOk.r0 (ok_Store___init__ T) T.b_Store___init__
  have G_Store_grow : FnR P w K mg base (L2.CX P w) 3 A.f_Store_grow (FnP K (clA A) 2 F_Store_grow) := FnOk.r0 (ok_Store_grow T) T.b_Store_grow
  have G_Store_view : FnR P w K mg base (L2.CX P w) 5 A.f_Store_view (FnP K (clA A) 1 F_Store_view) := FnOk.r0 (ok_Store_view T) T.b_Store_view
  refine T.F__law_grows.okX sc__law_grows fn_len (fun cdv Ar outer s H vs Q E hr h => ⟨StT (ec K (clA A)) (wE E) _, ?_, fn_body rfl (by decide) h⟩)
  exact (ss_seq (pss_cons (s_set (ps_set (i := 1) sc__law_grows.nd rfl (.inl rfl) (ev_mk (pe_makeX T.mk_Store G_Store___init__ (hr.mono (by decide)) rfl T.g_Store (fun σ => passAt (takes_of rfl rfl rfl rfl) σ) (ar_cons (pa_cons (ev_lst (pe_lst (ar_cons (pa_cons (ev_int pe_int) (ar_nil pa_nil))))) (ar_nil pa_nil)))))))
      (ss_seq (pss_cons (s_set (ps_set (i := 2) sc__law_grows.nd rfl (.inl rfl) (ev_m0 (pe_methX0 (ev_v (pv 1)) T.cl_Store T.mt_Store_view G_Store_view (hr.mono (j := 5) (by decide)) (fun σ => passAt (takes_of rfl rfl rfl rfl) σ)))))
      (pss_one (s_drop (ps_expr (ev_m (pe_methX (ev_v (pv 1)) T.cl_Store T.mt_Store_grow G_Store_grow (hr.mono (j := 3) (by decide)) (fun σ => passAt (takes_of rfl rfl rfl rfl) σ) (ar_cons (pa_cons (ev_int pe_int) (ar_nil pa_nil))))))))))))
theorem sc_View_during__2 : FnScope ["self", "deed"] ["self", "deed"] (defScope s_View_during) := ⟨rfl, rfl, rfl, by decide +kernel, rfl, by decide +kernel, by decide +kernel⟩
theorem ok_View_during__2 (T : Txt P K mg A) : FnOk P w K mg base (L2.CX P w) 7 A.f_View_during A.d_View_during ["self", "deed"] (FnP1 K (clA A) 1 A.f__law_grows F_View_during__2) := by
  have G_View_check : FnR P w K mg base (L2.CX P w) 1 A.f_View_check (FnP K (clA A) 1 F_View_check) := FnOk.r0 (ok_View_check T) T.b_View_check
  have G__law_grows : FnR P w K mg base (L2.CX P w) 6 A.f__law_grows (FnP K (clA A) 1 F__law_grows) := FnOk.r0 (ok__law_grows T) T.b__law_grows
  refine T.F_View_during.okX sc_View_during__2 fn_len1 (fun cdv Ar outer s H vs Q E hr h => ⟨StT ⟨K, clA A, [⟨A.f__law_grows, 0, none, none⟩]⟩ (wE E) _, ?_, fn_body1 rfl h⟩)
  exact (ss_seq (pss_cons (s_drop (ps_expr (ev_m0 (pe_methX0 (ev_v (pv 0)) T.cl_View T.mt_View_check G_View_check (hr.mono (j := 1) (by decide)) (fun σ => passAt (takes_of rfl rfl rfl rfl) σ)))))
      (pss_one (s_retFinX (ps_retFinX rfl rfl rfl (takes_of rfl rfl rfl rfl) (fun W pn xe tk1 _ => (ev_callLX (pe_callLX (i := 1) G__law_grows (hr.mono (j := 6) (by decide)) rfl (.inl rfl) T.kp__law_grows (fun σ => passAt tk1 σ) (ar_cons (pa_cons (ev_v (pv 0)) (ar_nil pa_nil)))) ⟨_, rfl, rfl⟩)) (pss_one (s_fld (ps_fld (ev_v (pv 0)) (ev_bl pe_bl) rfl) rfl (fc_closed T))) (fun a pn => (pss_one (s_fld (ps_fld (ev_v (pv 0)) (ev_bl pe_bl) rfl) rfl (fc_closed T)))))))))
theorem sc__law_during : FnScope ["_law_view", "_law_way", "_law_mark"] ["_law_view", "_law_way"] (defScope s__law_during) := ⟨rfl, rfl, rfl, by decide +kernel, rfl, by decide +kernel, by decide +kernel⟩
theorem ok__law_during (T : Txt P K mg A) : FnOk P w K mg base (L2.CX P w) 8 A.f__law_during A.d__law_during ["_law_view", "_law_way"] (FnP K (clA A) 2 F__law_during) := by
  have G_View_during__0 : FnR P w K mg base (L2.CX P w) 6 A.f_View_during (FnP1 K (clA A) 1 A.f__law_first F_View_during__0) := FnOk.r0 (ok_View_during__0 T) T.b_View_during
  have G_View_during__1 : FnR P w K mg base (L2.CX P w) 6 A.f_View_during (FnP1 K (clA A) 1 A.f__law_raises F_View_during__1) := FnOk.r0 (ok_View_during__1 T) T.b_View_during
  have G_View_during__2 : FnR P w K mg base (L2.CX P w) 7 A.f_View_during (FnP1 K (clA A) 1 A.f__law_grows F_View_during__2) := FnOk.r0 (ok_View_during__2 T) T.b_View_during
  refine T.F__law_during.okX sc__law_during fn_len (fun cdv Ar outer s H vs Q E hr h => ⟨StT (ec K (clA A)) (wE E) _, ?_, fn_body rfl (by decide) h⟩)
  exact (ss_seq (pss_cons (s_set (ps_set (i := 2) sc__law_during.nd rfl (.inl rfl) (ev_non pe_non)))
      (ss_seq (pss_cons (s_tryM (.only (Cx := 6) (em_Held T) (.only (Cx := 1000) (em_KeyError T) .nil)) rfl (ps_tryM rfl rfl (takes_of rfl rfl rfl rfl) (fun W pn xe tk1 _ => (pss_one (s_set (ps_set (i := 2) sc__law_during.nd rfl (.inl rfl) (ev_mPick (as := [A.f__law_first, A.f__law_raises, A.f__law_grows]) (Fs := [F_View_during__0, F_View_during__1, F_View_during__2]) (pe_methX (ev_v (pv 0)) T.cl_View T.mt_View_during (fnr_cons (k := 7) (by decide) G_View_during__0 (fnr_cons (k := 7) (by decide) G_View_during__1 (fnr_cons (k := 7) (by decide) G_View_during__2 (fnr_nil (k := 7))))) (hr.mono (j := 7) (by decide)) (fun σ => passAt tk1 σ) (pa_cons (pe_ix ix_tup (pe_tup (pa_cons (pe_glob (by rfl) T.g__law_first (v := .ref A.f__law_first) rfl) (pa_cons (pe_glob (by rfl) T.g__law_raises (v := .ref A.f__law_raises) rfl) (pa_cons (pe_glob (by rfl) T.g__law_grows (v := .ref A.f__law_grows) rfl) pa_nil)))) (ev_v (pv 1)) (fun _ _ => rfl)) pa_nil)) rfl (Nat.le_of_ble_eq_true rfl)))))) (.cons .none ⟨rfl, by decide, .inl T.g_Held⟩ (fun a oe cls d pn hz hf => (pss_one (s_set (ps_set (i := 2) sc__law_during.nd rfl (.inl rfl) (ev_str pe_str))))) (.cons .none ⟨rfl, by decide, .inr ⟨T.z_KeyError, boot_KeyError, by decide⟩⟩ (fun a oe cls d pn hz hf => (pss_one (s_set (ps_set (i := 2) sc__law_during.nd rfl (.inl rfl) (ev_str pe_str))))) .nil))))
      (pss_one (s_ret (ps_ret (ev_v (pv 2)))))))))
theorem sc_View_alive : FnScope ["self"] ["self"] (defScope s_View_alive) := ⟨rfl, rfl, rfl, by decide +kernel, rfl, by decide +kernel, by decide +kernel⟩
theorem ok_View_alive (T : Txt P K mg A) : FnOk P w K mg base (L2.CX P w) 1 A.f_View_alive A.d_View_alive ["self"] (FnP K (clA A) 1 F_View_alive) := by
  refine T.F_View_alive.okX sc_View_alive fn_len (fun cdv Ar outer s H vs Q E hr h => ⟨StT (ec K (clA A)) (wE E) _, ?_, fn_body rfl (by decide) h⟩)
  exact (pss_one (s_ret (ps_ret (ev_not (pe_not (ev_fld (pe_fldK (K := K) rfl (ev_v (pv 0))) rfl (fc_closed T)))))))
theorem sc__law_gone : FnScope ["_law_view", "_law_mark"] ["_law_view"] (defScope s__law_gone) := ⟨rfl, rfl, rfl, by decide +kernel, rfl, by decide +kernel, by decide +kernel⟩
theorem ok__law_gone (T : Txt P K mg A) : FnOk P w K mg base (L2.CX P w) 4 A.f__law_gone A.d__law_gone ["_law_view"] (FnP K (clA A) 1 F__law_gone) := by
  have G_View_alive : FnR P w K mg base (L2.CX P w) 1 A.f_View_alive (FnP K (clA A) 1 F_View_alive) := FnOk.r0 (ok_View_alive T) T.b_View_alive
  have G_View_listed : FnR P w K mg base (L2.CX P w) 3 A.f_View_listed (FnP K (clA A) 1 F_View_listed) := FnOk.r0 (ok_View_listed T) T.b_View_listed
  refine T.F__law_gone.okX sc__law_gone fn_len (fun cdv Ar outer s H vs Q E hr h => ⟨StT (ec K (clA A)) (wE E) _, ?_, fn_body rfl (by decide) h⟩)
  exact (ss_seq (pss_cons (s_set (ps_set (i := 1) sc__law_gone.nd rfl (.inl rfl) (ev_bl pe_bl)))
      (ss_seq (pss_cons (s_tryOnly (Cx := 7) (ps_tryOnly rfl rfl ⟨rfl, by decide, .inl T.g_Gone⟩ (takes_of rfl rfl rfl rfl) (fun W pn xe tk1 _ => (pss_one (s_drop (ps_expr (ev_m0 (pe_methX0 (ev_v (pv 0)) T.cl_View T.mt_View_listed G_View_listed (hr.mono (j := 3) (by decide)) (fun σ => passAt tk1 σ))))))) (fun a oe cls d pn hz hf => (pss_one (s_set (ps_set (i := 1) sc__law_gone.nd rfl (.inl rfl) (ev_bl pe_bl)))))) rfl (em_Gone T))
      (pss_one (s_ret (ps_ret (ev_and (pe_and (ev_v (pv 1)) (pe_one (ev_not (pe_not (ev_prop (pe_propX (ev_v (pv 0)) T.cl_View T.pr_View_alive G_View_alive (hr.mono (j := 2) (by decide)) (fun σ => passAt (W := fun _ _ _ _ => False) takes0 σ)))))))))))))))
theorem sc__law_deeds : FnScope ["_law_pool", "_law_store", "_law_view", "_law_cells", "_law_data", "_law_way", "_law_mark", "_law_k"] ["_law_pool", "_law_store", "_law_view", "_law_cells"] (defScope s__law_deeds) := ⟨rfl, rfl, rfl, by decide +kernel, rfl, by decide +kernel, by decide +kernel⟩
theorem ok__law_deeds (T : Txt P K mg A) : FnOk P w K mg base (L2.CX P w) 9 A.f__law_deeds A.d__law_deeds ["_law_pool", "_law_store", "_law_view", "_law_cells"] (FnP K (clA A) 4 F__law_deeds) := by
  have G_Store_listed : FnR P w K mg base (L2.CX P w) 1 A.f_Store_listed (FnP K (clA A) 1 F_Store_listed) := FnOk.r0 (ok_Store_listed T) T.b_Store_listed
  have G_View___eq__ : FnR P w K mg base (L2.CX P w) 4 A.f_View___eq__ (FnP K (clA A) 2 F_View___eq__) := FnOk.r0 (ok_View___eq__ T) T.b_View___eq__
  have G__law_draw : FnR P w K mg base (L2.CX P w) 1 A.f__law_draw (FnP K (clA A) 2 F__law_draw) := FnOk.r0 (ok__law_draw T) T.b__law_draw
  have G__law_during : FnR P w K mg base (L2.CX P w) 8 A.f__law_during (FnP K (clA A) 2 F__law_during) := FnOk.r0 (ok__law_during T) T.b__law_during
  have G__law_gone : FnR P w K mg base (L2.CX P w) 4 A.f__law_gone (FnP K (clA A) 1 F__law_gone) := FnOk.r0 (ok__law_gone T) T.b__law_gone
  refine T.F__law_deeds.okX sc__law_deeds fn_len (fun cdv Ar outer s H vs Q E hr h => ⟨StT (ec K (clA A)) (wE E) _, ?_, fn_body rfl (by decide) h⟩)
  exact (ss_seq (pss_cons (s_set (ps_set (i := 4) sc__law_deeds.nd rfl (.inl rfl) (ev_m0 (pe_methX0 (ev_v (pv 1)) T.cl_Store T.mt_Store_listed G_Store_listed (hr.mono (j := 1) (by decide)) (fun σ => passAt (takes_of rfl rfl rfl rfl) σ)))))
      (ss_seq (pss_cons (s_set (ps_set (i := 5) sc__law_deeds.nd rfl (.inl rfl) (ev_f (pe_callX G__law_draw (hr.mono (j := 1) (by decide)) rfl T.g__law_draw T.kp__law_draw (fun σ => passAt (takes_of rfl rfl rfl rfl) σ) (ar_cons (pa_cons (ev_v (pv 0)) (ar_cons (pa_cons (ev_int pe_int) (ar_nil pa_nil)))))))))
      (ss_seq (pss_cons (s_set (ps_set (i := 6) sc__law_deeds.nd rfl (.inl rfl) (ev_f (pe_callX G__law_during (hr.mono (j := 8) (by decide)) rfl T.g__law_during T.kp__law_during (fun σ => passAt (takes_of rfl rfl rfl rfl) σ) (ar_cons (pa_cons (ev_v (pv 2)) (ar_cons (pa_cons (ev_v (pv 5)) (ar_nil pa_nil)))))))))
      (ss_seq (pss_cons (s_if (ps_if (PW.pt (tw_or (pw_or (ts_not (pt_not (ts_e (pt_val (ev_f (pe_callX G__law_gone (hr.mono (j := 4) (by decide)) rfl T.g__law_gone T.kp__law_gone (fun σ => passAt (takes_of rfl rfl rfl rfl) σ) (ar_cons (pa_cons (ev_v (pv 2)) (ar_nil pa_nil))))) (by intro _; rfl))))) (pw_or1 (ts_b (pt_cmpR (op_eqOwn1 T.o_View___eq__ T.oq_View T.ol_View G_View___eq__ (hr.mono (by decide)) passL) (ev_v (pv 2)) (ev_v (pv 2)) (nomark _)) os_own1))))) (pss_one (s_ret (ps_ret (ev_bl pe_bl)))) (ss_nil pss_nil)))
      (ss_seq (pss_cons (s_if (ps_if (ts_b (pt_cmpR (op_eqX (K := K) rfl (hu65 hr)) (ev_v (pv 5)) (ev_int pe_int) (nomark _)) (os_eqX rfl)) (ss_seq (pss_cons (s_sub (ps_asg (ev_int pe_int) (pg_sub (ev_v (pv 4)) (ev_b (pe_ix (ix_P (hu_of hr) (K := K) rfl) (ev_b (pe_ix (ix_P (hu_of hr) (K := K) rfl) (ev_v (pv 3)) (ev_int pe_int) (fun _ _ => rfl)) (os_ix rfl)) (ev_int pe_int) (fun _ _ => rfl)) (os_ix rfl)) (set_P (hu_of hr)))))
      (ss_seq (pss_cons (s_for (ps_for (passes_of rfl) rfl (it_seq (pi_seq (ev_sl (pe_slice (sl_P (K := K) rfl) (ev_b (pe_ix (ix_P (hu_of hr) (K := K) rfl) (ev_v (pv 3)) (ev_int pe_int) (fun _ _ => rfl)) (os_ix rfl)) (po_e (po_someN (ev_int pe_int))) (po_n po_none)) rfl) (K := K) rfl) rfl) (pg_name (i := 7) sc__law_deeds.nd rfl (.inl rfl)) (pss_one (s_sub (ps_asg (ev_int pe_int) (pg_sub (ev_v (pv 4)) (ev_v (pv 7)) (set_P (hu_of hr))))))) pat_nm)
      (pss_one (s_ret (ps_ret (ev_and (pe_and (ev_b (pe_cmpR (op_eqX (K := K) rfl (hu65 hr)) (ev_m0 (pe_methX0 (ev_v (pv 1)) T.cl_Store T.mt_Store_listed G_Store_listed (hr.mono (j := 1) (by decide)) (fun σ => passAt (takes_of rfl rfl rfl rfl) σ))) (ev_v (pv 4)) (nomark _)) (os_eqX rfl)) (ev_and (pe_and (ev_isi (t := .list) (pe_callB (call_isiK' (K := K) rfl) (by rfl) T.z_isinstance (by decide +kernel) (pa_cons (ev_v (pv 6)) (pa_cons (pe_bltn (v := .ty "list") (by rfl) T.z_list (by decide +kernel) rfl) pa_nil))) rfl) (pe_one (ev_b (pe_cmpR (op_eqX (K := K) rfl (hu65 hr)) (ev_b (pe_ix (ix_P (hu_of hr) (K := K) rfl) (ev_v (pv 6)) (ev_int pe_int) (fun _ _ => rfl)) (os_ix rfl)) (ev_k (pe_callB (call_lenP (K := K) rfl) (by rfl) T.z_len (by decide +kernel) (ar_cons (pa_cons (ev_v (pv 3)) (ar_nil pa_nil)))) (cs_len rfl)) (nomark _)) (os_eqX rfl)))))))))))))) (ss_nil pss_nil)))
      (ss_seq (pss_cons (s_if (ps_if (ts_b (pt_cmpR (op_eqX (K := K) rfl (hu65 hr)) (ev_v (pv 5)) (ev_int pe_int) (nomark _)) (os_eqX rfl)) (ss_seq (pss_cons (s_sub (ps_asg (ev_int pe_int) (pg_sub (ev_v (pv 4)) (ev_b (pe_ix (ix_P (hu_of hr) (K := K) rfl) (ev_b (pe_ix (ix_P (hu_of hr) (K := K) rfl) (ev_v (pv 3)) (ev_u (pe_un un_negI (ev_int pe_int)) us_neg) (fun _ _ => rfl)) (os_ix rfl)) (ev_int pe_int) (fun _ _ => rfl)) (os_ix rfl)) (set_P (hu_of hr)))))
      (pss_one (s_for (ps_for (passes_of rfl) rfl (it_seq (pi_seq (ev_sl (pe_slice (sl_P (K := K) rfl) (ev_b (pe_ix (ix_P (hu_of hr) (K := K) rfl) (ev_v (pv 3)) (ev_u (pe_un un_negI (ev_int pe_int)) us_neg) (fun _ _ => rfl)) (os_ix rfl)) (po_e (po_someN (ev_int pe_int))) (po_n po_none)) rfl) (K := K) rfl) rfl) (pg_name (i := 7) sc__law_deeds.nd rfl (.inl rfl)) (pss_one (s_sub (ps_asg (ev_int pe_int) (pg_sub (ev_v (pv 4)) (ev_v (pv 7)) (set_P (hu_of hr))))))) pat_nm)))) (ss_nil pss_nil)))
      (pss_one (s_ret (ps_ret (ev_and (pe_and (ev_b (pe_cmpR (op_eqX (K := K) rfl (hu65 hr)) (ev_m0 (pe_methX0 (ev_v (pv 1)) T.cl_Store T.mt_Store_listed G_Store_listed (hr.mono (j := 1) (by decide)) (fun σ => passAt (takes_of rfl rfl rfl rfl) σ))) (ev_v (pv 4)) (nomark _)) (os_eqX rfl)) (pe_one (ev_b (pe_cmpR (op_eqX (K := K) rfl (hu65 hr)) (ev_v (pv 6)) (ev_b (pe_ix (ix_P (hu_of hr) (K := K) rfl) (ev_tup (pe_tup (ar_cons (pa_cons (ev_non pe_non) (ar_cons (pa_cons (ev_str pe_str) (ar_cons (pa_cons (ev_str pe_str) (ar_nil pa_nil))))))))) (ev_v (pv 5)) (fun _ _ => rfl)) (os_ix rfl)) (nomark _)) (os_eqX rfl))))))))))))))))))))
theorem sc_Form___mul__ : FnScope ["self", "number"] ["self", "number"] (defScope s_Form___mul__) := ⟨rfl, rfl, rfl, by decide +kernel, rfl, by decide +kernel, by decide +kernel⟩
theorem ok_Form___mul__ (T : Txt P K mg A) : FnOk P w K mg base (L2.CX P w) 3 A.f_Form___mul__ A.d_Form___mul__ ["self", "number"] (FnP K (clA A) 2 F_Form___mul__) := by
  have G_Form___init__ : FnR P w K mg base (L2.CX P w) 1 A.f_Form___init__ (FnP K (clA A) 3 F_Form___init__) := FnOk.r0 (ok_Form___init__ T) T.b_Form___init__
  refine T.F_Form___mul__.okX sc_Form___mul__ fn_len (fun cdv Ar outer s H vs Q E hr h => ⟨StT (ec K (clA A)) (wE E) _, ?_, fn_body rfl (by decide) h⟩)
  exact (pss_one (s_ret (ps_ret (ev_mk (pe_makeX T.mk_Form G_Form___init__ (hr.mono (by decide)) rfl T.g_Form (fun σ => passAt (takes_of rfl rfl rfl rfl) σ) (ar_cons (pa_cons (ev_b (pe_op op_mulA (ev_fld (pe_fldK (K := K) rfl (ev_v (pv 0))) rfl (fc_alpha T)) (ev_v (pv 1))) os_mul) (ar_cons (pa_cons (ev_b (pe_op op_mulA (ev_fld (pe_fldK (K := K) rfl (ev_v (pv 0))) rfl (fc_beta T)) (ev_v (pv 1))) os_mul) (ar_nil pa_nil))))))))))
theorem sc_cast_count : FnScope ["track", "step", "count", "size", "new_size", "many"] ["track", "step", "count", "size", "new_size"] (defScope s_cast_count) := ⟨rfl, rfl, rfl, by decide +kernel, rfl, by decide +kernel, by decide +kernel⟩
theorem ok_cast_count (T : Txt P K mg A) : FnOk P w K mg base (L2.CX P w) 4 A.f_cast_count A.d_cast_count ["track", "step", "count", "size", "new_size"] (FnP K (clA A) 5 F_cast_count) := by
  have G_Form___mul__ : FnR P w K mg base (L2.CX P w) 3 A.f_Form___mul__ (FnP K (clA A) 2 F_Form___mul__) := FnOk.r0 (ok_Form___mul__ T) T.b_Form___mul__
  have G_Track_below : FnR P w K mg base (L2.CX P w) 2 A.f_Track_below (FnP K (clA A) 3 F_Track_below) := FnOk.r0 (ok_Track_below T) T.b_Track_below
  have G_Track_divide : FnR P w K mg base (L2.CX P w) 3 A.f_Track_divide (FnP K (clA A) 3 F_Track_divide) := FnOk.r0 (ok_Track_divide T) T.b_Track_divide
  have G_number_form : FnR P w K mg base (L2.CX P w) 3 A.f_number_form (FnP K (clA A) 1 F_number_form) := FnOk.r0 (ok_number_form T) T.b_number_form
  refine T.F_cast_count.okX sc_cast_count fn_len (fun cdv Ar outer s H vs Q E hr h => ⟨StT (ec K (clA A)) (wE E) _, ?_, fn_body rfl (by decide) h⟩)
  exact (ss_seq (pss_cons (s_if (ps_if (PW.pt (tw_and (pw_and (ts_b (pt_cmpR (op_neX (K := K) rfl (hu65 hr)) (ev_v (pv 1)) (ev_v (pv 3)) (nomark _)) (os_neX rfl)) (pw_and1 (ts_not (pt_not (ts_e (pt_val (ev_m (pe_methX (ev_v (pv 0)) T.cl_Track T.mt_Track_below G_Track_below (hr.mono (j := 2) (by decide)) (fun σ => passAt (takes_of rfl rfl rfl rfl) σ) (ar_cons (pa_cons (ev_v (pv 2)) (ar_cons (pa_cons (ev_f (pe_callX G_number_form (hr.mono (j := 3) (by decide)) rfl T.g_number_form T.kp_number_form (fun σ => passAt (takes_of rfl rfl rfl rfl) σ) (ar_cons (pa_cons (ev_int pe_int) (ar_nil pa_nil))))) (ar_nil pa_nil))))))) (by intro _; rfl))))))))) (pss_one (s_ret (ps_ret (ev_non pe_non)))) (ss_nil pss_nil)))
      (ss_seq (pss_cons (s_if (ps_if (PW.pt (tw_and (pw_and (ts_b (pt_cmpR (op_neX (K := K) rfl (hu65 hr)) (ev_v (pv 3)) (ev_int pe_int) (nomark _)) (os_neX rfl)) (pw_and1 (ts_b (pt_cmpR (op_neX (K := K) rfl (hu65 hr)) (ev_v (pv 4)) (ev_int pe_int) (nomark _)) (os_neX rfl)))))) (pss_one (s_ret (ps_ret (ev_non pe_non)))) (ss_nil pss_nil)))
      (ss_seq (pss_cons (s_set (ps_set (i := 5) sc_cast_count.nd rfl (.inl rfl) (ev_m (pe_methX (ev_v (pv 0)) T.cl_Track T.mt_Track_divide G_Track_divide (hr.mono (j := 3) (by decide)) (fun σ => passAt (takes_of rfl rfl rfl rfl) σ) (ar_cons (pa_cons (ev_b (pe_op (op_ownI T.sf_Form T.o_Form___mul__ T.or_Form___mul__ T.oi_Form___mul__ T.oj_Form___mul__ T.os_Form G_Form___mul__ (hr.mono (by decide)) passL) (ev_v (pv 2)) (ev_v (pv 3))) os_ownI) (ar_cons (pa_cons (ev_v (pv 4)) (ar_nil pa_nil)))))))))
      (ss_seq (pss_cons (s_if (ps_if (ts_b (pt_cmpR (op_neX (K := K) rfl (hu65 hr)) (ev_b (pe_ix (ix_P (hu_of hr) (K := K) rfl) (ev_v (pv 5)) (ev_int pe_int) (fun _ _ => rfl)) (os_ix rfl)) (ev_int pe_int) (nomark _)) (os_neX rfl)) (pss_one (s_ret (ps_ret (ev_non pe_non)))) (ss_nil pss_nil)))
      (pss_one (s_ret (ps_ret (ev_b (pe_ix (ix_P (hu_of hr) (K := K) rfl) (ev_v (pv 5)) (ev_int pe_int) (fun _ _ => rfl)) (os_ix rfl)))))))))))))
theorem sc_Window_recast : FnScope ["self", "size", "many"] ["self", "size"] (defScope s_Window_recast) := ⟨rfl, rfl, rfl, by decide +kernel, rfl, by decide +kernel, by decide +kernel⟩
theorem ok_Window_recast (T : Txt P K mg A) : FnOk P w K mg base (L2.CX P w) 5 A.f_Window_recast A.d_Window_recast ["self", "size"] (FnP K (clA A) 2 F_Window_recast) := by
  have G_Track___init__ : FnR P w K mg base (L2.CX P w) 1 A.f_Track___init__ (FnP K (clA A) 1 F_Track___init__) := FnOk.r0 (ok_Track___init__ T) T.b_Track___init__
  have G_Window___init__ : FnR P w K mg base (L2.CX P w) 3 A.f_Window___init__ (FnP K (clA A) 5 F_Window___init__) := FnOk.r0 (ok_Window___init__ T) T.b_Window___init__
  have G_cast_count : FnR P w K mg base (L2.CX P w) 4 A.f_cast_count (FnP K (clA A) 5 F_cast_count) := FnOk.r0 (ok_cast_count T) T.b_cast_count
  have G_number_form : FnR P w K mg base (L2.CX P w) 3 A.f_number_form (FnP K (clA A) 1 F_number_form) := FnOk.r0 (ok_number_form T) T.b_number_form
  refine T.F_Window_recast.okX sc_Window_recast fn_len (fun cdv Ar outer s H vs Q E hr h => ⟨StT (ec K (clA A)) (wE E) _, ?_, fn_body rfl (by decide) h⟩)
  exact (ss_seq (pss_cons (s_set (ps_set (i := 2) sc_Window_recast.nd rfl (.inl rfl) (ev_f (pe_callX G_cast_count (hr.mono (j := 4) (by decide)) rfl T.g_cast_count T.kp_cast_count (fun σ => passAt (takes_of rfl rfl rfl rfl) σ) (ar_cons (pa_cons (ev_mk0 (pe_makeX0 T.mk_Track G_Track___init__ (hr.mono (by decide)) rfl T.g_Track (fun σ => passAt (takes_of rfl rfl rfl rfl) σ))) (ar_cons (pa_cons (ev_fld (pe_fldK (K := K) rfl (ev_v (pv 0))) rfl (fc_step T)) (ar_cons (pa_cons (ev_f (pe_callX G_number_form (hr.mono (j := 3) (by decide)) rfl T.g_number_form T.kp_number_form (fun σ => passAt (takes_of rfl rfl rfl rfl) σ) (ar_cons (pa_cons (ev_fld (pe_fldK (K := K) rfl (ev_v (pv 0))) rfl (fc_count T)) (ar_nil pa_nil))))) (ar_cons (pa_cons (ev_fld (pe_fldK (K := K) rfl (ev_v (pv 0))) rfl (fc_size T)) (ar_cons (pa_cons (ev_v (pv 1)) (ar_nil pa_nil)))))))))))))))
      (ss_seq (pss_cons (s_if (ps_if (ts_b (pt_cmpR op_is0 (ev_v (pv 2)) (ev_non pe_non) (nomark _)) os_is) (pss_one (s_raiseY (ps_raiseY T.y_BadCast rfl (takes_of rfl rfl rfl rfl) rfl))) (ss_nil pss_nil)))
      (pss_one (s_ret (ps_ret (ev_mk (pe_makeX T.mk_Window G_Window___init__ (hr.mono (by decide)) rfl T.g_Window (fun σ => passAt (takes_of rfl rfl rfl rfl) σ) (ar_cons (pa_cons (ev_fld (pe_fldK (K := K) rfl (ev_v (pv 0))) rfl (fc_start T)) (ar_cons (pa_cons (ev_v (pv 1)) (ar_cons (pa_cons (ev_fld (pe_fldK (K := K) rfl (ev_v (pv 2))) rfl (fc_alpha T)) (ar_cons (pa_cons (ev_v (pv 1)) (ar_nil pa_nil))))))))))))))))))
theorem sc_View_cast : FnScope ["self", "size"] ["self", "size"] (defScope s_View_cast) := ⟨rfl, rfl, rfl, by decide +kernel, rfl, by decide +kernel, by decide +kernel⟩
theorem ok_View_cast (T : Txt P K mg A) : FnOk P w K mg base (L2.CX P w) 6 A.f_View_cast A.d_View_cast ["self", "size"] (FnP K (clA A) 2 F_View_cast) := by
  have G_View___init__ : FnR P w K mg base (L2.CX P w) 1 A.f_View___init__ (FnP K (clA A) 5 F_View___init__) := FnOk.r0 (ok_View___init__ T) T.b_View___init__
  have G_View_check : FnR P w K mg base (L2.CX P w) 1 A.f_View_check (FnP K (clA A) 1 F_View_check) := FnOk.r0 (ok_View_check T) T.b_View_check
  have G_Window_recast : FnR P w K mg base (L2.CX P w) 5 A.f_Window_recast (FnP K (clA A) 2 F_Window_recast) := FnOk.r0 (ok_Window_recast T) T.b_Window_recast
  refine T.F_View_cast.okX sc_View_cast fn_len (fun cdv Ar outer s H vs Q E hr h => ⟨StT (ec K (clA A)) (wE E) _, ?_, fn_body rfl (by decide) h⟩)
  exact (ss_seq (pss_cons (s_drop (ps_expr (ev_m0 (pe_methX0 (ev_v (pv 0)) T.cl_View T.mt_View_check G_View_check (hr.mono (j := 1) (by decide)) (fun σ => passAt (takes_of rfl rfl rfl rfl) σ)))))
      (pss_one (s_ret (ps_ret (ev_mk (pe_makeX T.mk_View G_View___init__ (hr.mono (by decide)) rfl T.g_View (fun σ => passAt (takes_of rfl rfl rfl rfl) σ) (ar_cons (pa_cons (ev_fld (pe_fldK (K := K) rfl (ev_v (pv 0))) rfl (fc_cells T)) (ar_cons (pa_cons (ev_m (pe_methX (ev_fld (pe_fldK (K := K) rfl (ev_v (pv 0))) rfl (fc_window T)) T.cl_Window T.mt_Window_recast G_Window_recast (hr.mono (j := 5) (by decide)) (fun σ => passAt (takes_of rfl rfl rfl rfl) σ) (ar_cons (pa_cons (ev_v (pv 1)) (ar_nil pa_nil))))) (ar_cons (pa_cons (ev_fld (pe_fldK (K := K) rfl (ev_v (pv 0))) rfl (fc_locked T)) (ar_cons (pa_cons (ev_fld (pe_fldK (K := K) rfl (ev_v (pv 0))) rfl (fc_lent_out T)) (ar_nil pa_nil))))))))))))))))
theorem sc__law_same : FnScope ["_law_told", "_law_due", "_law_k"] ["_law_told", "_law_due"] (defScope s__law_same) := ⟨rfl, rfl, rfl, by decide +kernel, rfl, by decide +kernel, by decide +kernel⟩
theorem step__law_same (T : Txt P K mg A) (n : Nat) (G__law_same : FnR P w K mg base (L2.CX P w) (1 + n) A.f__law_same (FnP K (clA A) 2 (FR__law_same n))) : FnOk P w K mg base (L2.CX P w) (1 + n + 1) A.f__law_same A.d__law_same ["_law_told", "_law_due"] (FnP K (clA A) 2 (FR__law_same (n + 1))) := by
  refine T.F__law_same.okX sc__law_same fn_len (fun cdv Ar outer s H vs Q E hr h => ⟨StT (ec K (clA A)) (wE E) _, ?_, fn_body rfl (by decide) h⟩)
  exact (ss_seq (pss_cons (s_if (ps_if (PW.pt (tw_or (pw_or (ts_e (pt_val (ev_isi (t := .tuple) (pe_callB (call_isiK' (K := K) rfl) (by rfl) T.z_isinstance (by decide +kernel) (pa_cons (ev_v (pv 1)) (pa_cons (pe_bltn (v := .ty "tuple") (by rfl) T.z_tuple (by decide +kernel) rfl) pa_nil))) rfl) (by intro _; rfl))) (pw_or1 (ts_e (pt_val (ev_isi (t := .list) (pe_callB (call_isiK' (K := K) rfl) (by rfl) T.z_isinstance (by decide +kernel) (pa_cons (ev_v (pv 1)) (pa_cons (pe_bltn (v := .ty "list") (by rfl) T.z_list (by decide +kernel) rfl) pa_nil))) rfl) (by intro _; rfl))))))) (ss_seq (pss_cons (s_if (ps_if (ts_b (pt_cmpR (op_neX (K := K) rfl (hu65 hr)) (ev_isi (t := .tuple) (pe_callB (call_isiK' (K := K) rfl) (by rfl) T.z_isinstance (by decide +kernel) (pa_cons (ev_v (pv 0)) (pa_cons (pe_bltn (v := .ty "tuple") (by rfl) T.z_tuple (by decide +kernel) rfl) pa_nil))) rfl) (ev_isi (t := .tuple) (pe_callB (call_isiK' (K := K) rfl) (by rfl) T.z_isinstance (by decide +kernel) (pa_cons (ev_v (pv 1)) (pa_cons (pe_bltn (v := .ty "tuple") (by rfl) T.z_tuple (by decide +kernel) rfl) pa_nil))) rfl) (nomark _)) (os_neX rfl)) (pss_one (s_ret (ps_ret (ev_bl pe_bl)))) (ss_nil pss_nil)))
      (ss_seq (pss_cons (s_if (ps_if (PW.pt (tw_or (pw_or (ts_b (pt_cmpR (op_neX (K := K) rfl (hu65 hr)) (ev_isi (t := .list) (pe_callB (call_isiK' (K := K) rfl) (by rfl) T.z_isinstance (by decide +kernel) (pa_cons (ev_v (pv 0)) (pa_cons (pe_bltn (v := .ty "list") (by rfl) T.z_list (by decide +kernel) rfl) pa_nil))) rfl) (ev_isi (t := .list) (pe_callB (call_isiK' (K := K) rfl) (by rfl) T.z_isinstance (by decide +kernel) (pa_cons (ev_v (pv 1)) (pa_cons (pe_bltn (v := .ty "list") (by rfl) T.z_list (by decide +kernel) rfl) pa_nil))) rfl) (nomark _)) (os_neX rfl)) (pw_or1 (ts_b (pt_cmpR (op_neX (K := K) rfl (hu65 hr)) (ev_k (pe_callB (call_lenP (K := K) rfl) (by rfl) T.z_len (by decide +kernel) (ar_cons (pa_cons (ev_v (pv 0)) (ar_nil pa_nil)))) (cs_len rfl)) (ev_k (pe_callB (call_lenP (K := K) rfl) (by rfl) T.z_len (by decide +kernel) (ar_cons (pa_cons (ev_v (pv 1)) (ar_nil pa_nil)))) (cs_len rfl)) (nomark _)) (os_neX rfl)))))) (pss_one (s_ret (ps_ret (ev_bl pe_bl)))) (ss_nil pss_nil)))
      (pss_one (s_ret (ps_ret (ev_k (pe_callB (call_allP rfl (K := K) rfl) (by rfl) T.z_all (by decide +kernel) (ar_cons (pa_cons (ev_lcY (pe_lc (own := [("_law_k", 2)]) (g := gName 2) (tt := tYes) (by rfl) sc__law_same.nd (it_r1 (pi_range1 rfl T.z_range (ar_cons (pa_cons (ev_k (pe_callB (call_lenP (K := K) rfl) (by rfl) T.z_len (by decide +kernel) (ar_cons (pa_cons (ev_v (pv 1)) (ar_nil pa_nil)))) (cs_len rfl)) (ar_nil pa_nil))))) (blkOk_by (own := [("_law_k", 2)]) (N := ["_law_told", "_law_due", "_law_k"]) (sc := defScope s__law_same) (by decide +kernel)) (fun _ _ _ _ _ => (pg_name (i := 2) sc__law_same.nd rfl (Or.inl rfl))) (fun _ _ _ _ _ => pts_nil) (fun _ _ _ _ _ => (ev_f (pe_callX G__law_same (hr.mono (by omega)) rfl T.g__law_same T.kp__law_same (fun σ => passAt takes0 σ) (ar_cons (pa_cons (ev_b (pe_ix (ix_P (hu_of hr) (K := K) rfl) (ev_v (pv 0)) (ev_v (pv 2)) (fun _ _ => rfl)) (os_ix rfl)) (ar_cons (pa_cons (ev_b (pe_ix (ix_P (hu_of hr) (K := K) rfl) (ev_v (pv 1)) (ev_v (pv 2)) (fun _ _ => rfl)) (os_ix rfl)) (ar_nil pa_nil))))))))) pat_nm (by decide)) (ar_nil pa_nil)))) (cs_all rfl))))))))) (ss_nil pss_nil)))
      (ss_seq (pss_cons (s_if (ps_if (ts_b (pt_cmpR op_is0 (ev_v (pv 1)) (ev_non pe_non) (nomark _)) os_is) (pss_one (s_ret (ps_ret (ev_b (pe_cmpR op_is0 (ev_v (pv 0)) (ev_non pe_non) (nomark _)) os_is)))) (ss_nil pss_nil)))
      (ss_seq (pss_cons (s_if (ps_if (ts_e (pt_val (ev_isi (t := .str) (pe_callB (call_isiK' (K := K) rfl) (by rfl) T.z_isinstance (by decide +kernel) (pa_cons (ev_v (pv 1)) (pa_cons (pe_bltn (v := .ty "str") (by rfl) T.z_str (by decide +kernel) rfl) pa_nil))) rfl) (by intro _; rfl))) (pss_one (s_ret (ps_ret (ev_and (pe_and (ev_isi (t := .str) (pe_callB (call_isiK' (K := K) rfl) (by rfl) T.z_isinstance (by decide +kernel) (pa_cons (ev_v (pv 0)) (pa_cons (pe_bltn (v := .ty "str") (by rfl) T.z_str (by decide +kernel) rfl) pa_nil))) rfl) (pe_one (ev_b (pe_cmpR (op_eqX (K := K) rfl (hu65 hr)) (ev_v (pv 0)) (ev_v (pv 1)) (nomark _)) (os_eqX rfl)))))))) (ss_nil pss_nil)))
      (pss_one (s_ret (ps_ret (ev_and (pe_and (ev_isi (t := .int) (pe_callB (call_isiK' (K := K) rfl) (by rfl) T.z_isinstance (by decide +kernel) (pa_cons (ev_v (pv 0)) (pa_cons (pe_bltn (v := .ty "int") (by rfl) T.z_int (by decide +kernel) rfl) pa_nil))) rfl) (ev_and (pe_and (ev_not (pe_not (ev_isi (t := .bool) (pe_callB (call_isiK' (K := K) rfl) (by rfl) T.z_isinstance (by decide +kernel) (pa_cons (ev_v (pv 0)) (pa_cons (pe_bltn (v := .ty "bool") (by rfl) T.z_bool (by decide +kernel) rfl) pa_nil))) rfl))) (pe_one (ev_b (pe_cmpR (op_eqX (K := K) rfl (hu65 hr)) (ev_v (pv 0)) (ev_v (pv 1)) (nomark _)) (os_eqX rfl))))))))))))))))
theorem rec__law_same (T : Txt P K mg A) : ∀ n : Nat, FnR P w K mg base (L2.CX P w) (1 + n) A.f__law_same (FnP K (clA A) 2 (FR__law_same n))
  | 0 => (fun _ _ _ _ _ _ _ _ _ _ _ ⟨_, _, _, _, _, _, h⟩ => h.elim)
  | n + 1 => by
    have ih := rec__law_same T n
    exact FnOk.r0 (step__law_same T n ih) T.b__law_same
theorem ok__law_same (T : Txt P K mg A) : FnOk P w K mg base (L2.CX P w) 13 A.f__law_same A.d__law_same ["_law_told", "_law_due"] (FnP K (clA A) 2 F__law_same) := by
  have ih := rec__law_same (w := w) (base := base) T 11
  exact step__law_same T 11 ih
theorem sc_View___getitem__ : FnScope ["self", "index"] ["self", "index"] (defScope s_View___getitem__) := ⟨rfl, rfl, rfl, by decide +kernel, rfl, by decide +kernel, by decide +kernel⟩
theorem ok_View___getitem__ (T : Txt P K mg A) : FnOk P w K mg base (L2.CX P w) 4 A.f_View___getitem__ A.d_View___getitem__ ["self", "index"] (FnP K (clA A) 2 F_View___getitem__) := by
  have G_View_check : FnR P w K mg base (L2.CX P w) 1 A.f_View_check (FnP K (clA A) 1 F_View_check) := FnOk.r0 (ok_View_check T) T.b_View_check
  have G_View_index_of : FnR P w K mg base (L2.CX P w) 3 A.f_View_index_of (FnP K (clA A) 2 F_View_index_of) := FnOk.r0 (ok_View_index_of T) T.b_View_index_of
  have G_View_value_at : FnR P w K mg base (L2.CX P w) 2 A.f_View_value_at (FnP K (clA A) 2 F_View_value_at) := FnOk.r0 (ok_View_value_at T) T.b_View_value_at
  refine T.F_View___getitem__.okX sc_View___getitem__ fn_len (fun cdv Ar outer s H vs Q E hr h => ⟨StT (ec K (clA A)) (wE E) _, ?_, fn_body rfl (by decide) h⟩)
  exact (ss_seq (pss_cons (s_drop (ps_expr (ev_m0 (pe_methX0 (ev_v (pv 0)) T.cl_View T.mt_View_check G_View_check (hr.mono (j := 1) (by decide)) (fun σ => passAt (takes_of rfl rfl rfl rfl) σ)))))
      (pss_one (s_ret (ps_ret (ev_m (pe_methX (ev_v (pv 0)) T.cl_View T.mt_View_value_at G_View_value_at (hr.mono (j := 2) (by decide)) (fun σ => passAt (takes_of rfl rfl rfl rfl) σ) (ar_cons (pa_cons (ev_m (pe_methX (ev_v (pv 0)) T.cl_View T.mt_View_index_of G_View_index_of (hr.mono (j := 3) (by decide)) (fun σ => passAt (takes_of rfl rfl rfl rfl) σ) (ar_cons (pa_cons (ev_v (pv 1)) (ar_nil pa_nil))))) (ar_nil pa_nil))))))))))
theorem sc_View___contains__ : FnScope ["self", "value", "values"] ["self", "value"] (defScope s_View___contains__) := ⟨rfl, rfl, rfl, by decide +kernel, rfl, by decide +kernel, by decide +kernel⟩
theorem ok_View___contains__ (T : Txt P K mg A) : FnOk P w K mg base (L2.CX P w) 4 A.f_View___contains__ A.d_View___contains__ ["self", "value"] (FnP K (clA A) 2 F_View___contains__) := by
  have G_View_listed : FnR P w K mg base (L2.CX P w) 3 A.f_View_listed (FnP K (clA A) 1 F_View_listed) := FnOk.r0 (ok_View_listed T) T.b_View_listed
  have G_is_integer : FnR P w K mg base (L2.CX P w) 1 A.f_is_integer (FnP K (clA A) 3 F_is_integer) := FnOk.r0 (ok_is_integer T) T.b_is_integer
  refine T.F_View___contains__.okX sc_View___contains__ fn_len (fun cdv Ar outer s H vs Q E hr h => ⟨StT (ec K (clA A)) (wE E) _, ?_, fn_body rfl (by decide) h⟩)
  exact (ss_seq (pss_cons (s_set (ps_set (i := 2) sc_View___contains__.nd rfl (.inl rfl) (ev_m0 (pe_methX0 (ev_v (pv 0)) T.cl_View T.mt_View_listed G_View_listed (hr.mono (j := 3) (by decide)) (fun σ => passAt (takes_of rfl rfl rfl rfl) σ)))))
      (pss_one (s_ret (ps_ret (ev_and (pe_and (ev_f (pe_callX G_is_integer (hr.mono (j := 1) (by decide)) rfl T.g_is_integer T.kp_is_integer (fun σ => passAt (takes_of rfl rfl rfl rfl) σ) (ar_cons (pa_cons (ev_v (pv 1)) (ar_cons (pa_cons (ev_int pe_int) (ar_cons (pa_cons (ev_non pe_non) (ar_nil pa_nil))))))))) (pe_one (ev_b (pe_cmpR (op_inX (K := K) rfl (hu65 hr)) (ev_v (pv 1)) (ev_v (pv 2)) rfl) (os_inX rfl))))))))))
end
end LbW
namespace LbW
open PySem PySem.Spec PyProof.Rows L2 Lb Pu
section
variable {P : Program} {w : World} {K : PySem.W.Frag} {mg : Str → Option Value} {base : Heap} {A : Ad}
theorem sc_law : FnScope ["_law_script", "_law_pool", "_law_size", "_law_data", "_law_pace", "_law_store", "_law_other", "_law_view", "_law_twin", "_law_cells", "_law_values", "_law_at", "_law_value_here", "_law_due", "_law_rest", "_law_k", "_law_cell"] ["_law_script"] (defScope s_law) := ⟨rfl, rfl, rfl, by decide +kernel, rfl, by decide +kernel, by decide +kernel⟩
theorem ok_law (T : Txt P K mg A) : FnOk P w K mg base (L2.CX P w) 14 A.f_law A.d_law ["_law_script"] (FnP K (clA A) 1 F_law) := by
  have G_Store___init__ : FnR P w K mg base (L2.CX P w) 3 A.f_Store___init__ (FnP K (clA A) 2 F_Store___init__) := FnOk.r0 (ok_Store___init__ T) T.b_Store___init__
  have G_Store_listed : FnR P w K mg base (L2.CX P w) 1 A.f_Store_listed (FnP K (clA A) 1 F_Store_listed) := FnOk.r0 (ok_Store_listed T) T.b_Store_listed
  have G_Store_view : FnR P w K mg base (L2.CX P w) 5 A.f_Store_view (FnP K (clA A) 1 F_Store_view) := FnOk.r0 (ok_Store_view T) T.b_Store_view
  have G_View___contains__ : FnR P w K mg base (L2.CX P w) 4 A.f_View___contains__ (FnP K (clA A) 2 F_View___contains__) := FnOk.r0 (ok_View___contains__ T) T.b_View___contains__
  have G_View___eq__ : FnR P w K mg base (L2.CX P w) 4 A.f_View___eq__ (FnP K (clA A) 2 F_View___eq__) := FnOk.r0 (ok_View___eq__ T) T.b_View___eq__
  have G_View___getitem__ : FnR P w K mg base (L2.CX P w) 4 A.f_View___getitem__ (FnP K (clA A) 2 F_View___getitem__) := FnOk.r0 (ok_View___getitem__ T) T.b_View___getitem__
  have G_View___setitem__ : FnR P w K mg base (L2.CX P w) 4 A.f_View___setitem__ (FnP K (clA A) 3 F_View___setitem__) := FnOk.r0 (ok_View___setitem__ T) T.b_View___setitem__
  have G_View_cast : FnR P w K mg base (L2.CX P w) 6 A.f_View_cast (FnP K (clA A) 2 F_View_cast) := FnOk.r0 (ok_View_cast T) T.b_View_cast
  have G_View_listed : FnR P w K mg base (L2.CX P w) 3 A.f_View_listed (FnP K (clA A) 1 F_View_listed) := FnOk.r0 (ok_View_listed T) T.b_View_listed
  have G__law_deeds : FnR P w K mg base (L2.CX P w) 9 A.f__law_deeds (FnP K (clA A) 4 F__law_deeds) := FnOk.r0 (ok__law_deeds T) T.b__law_deeds
  have G__law_draw : FnR P w K mg base (L2.CX P w) 1 A.f__law_draw (FnP K (clA A) 2 F__law_draw) := FnOk.r0 (ok__law_draw T) T.b__law_draw
  have G__law_flag : FnR P w K mg base (L2.CX P w) 1 A.f__law_flag (FnP K (clA A) 2 F__law_flag) := FnOk.r0 (ok__law_flag T) T.b__law_flag
  have G__law_gone : FnR P w K mg base (L2.CX P w) 4 A.f__law_gone (FnP K (clA A) 1 F__law_gone) := FnOk.r0 (ok__law_gone T) T.b__law_gone
  have G__law_same : FnR P w K mg base (L2.CX P w) 13 A.f__law_same (FnP K (clA A) 2 F__law_same) := FnOk.r0 (ok__law_same T) T.b__law_same
  have G__law_value : FnR P w K mg base (L2.CX P w) 1 A.f__law_value (FnP K (clA A) 1 F__law_value) := FnOk.r0 (ok__law_value T) T.b__law_value
  obtain ⟨_, _, KB0⟩ := T.F_View_sliced.kbinds 1 ["step"] [] (fun {_} us its mv ws => us ++ ((its.drop 0).take 1) ++ ((its.drop 1).take 1) ++ ((ws.drop 0).take 1)) (by simp) (by simp) (by simp) (fun r1 r2 r4 r3 => (((r1.append ((r2.drop 0).take 1)).append ((r2.drop 1).take 1)).append ((r3.drop 0).take 1))) (fun T D doc pm an cdv ct us its mv ws l1 l2 l4 l3 => match us, its, mv, ws, l1, l2, l4, l3 with | [_], [_, _], [], [_], _, _, _, _ => ⟨_, rfl, (show _ = _ from by first | rfl | with_unfolding_all rfl | kernel_rfl)⟩)
  obtain ⟨_, _, KB1⟩ := T.F_View_sliced.kbinds 3 ["step"] [] (fun {_} us its mv ws => us ++ ((ws.drop 0).take 1)) (by simp) (by simp) (by simp) (fun r1 r2 r4 r3 => (r1.append ((r3.drop 0).take 1))) (fun T D doc pm an cdv ct us its mv ws l1 l2 l4 l3 => match us, its, mv, ws, l1, l2, l4, l3 with | [_, _, _], [_, _], [], [_], _, _, _, _ => ⟨_, rfl, (show _ = _ from by first | rfl | with_unfolding_all rfl | kernel_rfl)⟩)
  refine T.F_law.okX sc_law fn_len (fun cdv Ar outer s H vs Q E hr h => ⟨StT (ec K (clA A)) (wE E) _, ?_, fn_body rfl (by decide) h⟩)
  exact (ss_seq (pss_cons (s_set (ps_set (i := 1) sc_law.nd rfl (.inr rfl) (ev_disp (l := [("cells", (eSl (eK bList (aC (eV 0) aN)) pN (pE (eC (.int 63))))), ("at", (eC (.int 0))), ("left", (eC (.int 0))), ("turn", (eC (.int 0))), ("seed", (eC (.int 1)))]) (pe_disp (pps_cons pe_str (ev_sl (pe_slice (sl_P (K := K) rfl) (ev_k (pe_callTy (call_listP rfl (K := K) rfl) (by rfl) T.z_list (by decide +kernel) (ar_cons (pa_cons (ev_v (pv 0)) (ar_nil pa_nil)))) (cs_list rfl)) (po_n po_none) (po_e (po_someN (ev_int pe_int)))) rfl) (pps_cons pe_str (ev_int pe_int) (pps_cons pe_str (ev_int pe_int) (pps_cons pe_str (ev_int pe_int) (pps_cons pe_str (ev_int pe_int) pps_nil))))) rfl rfl (by simp) (by decide)) (by decide))))
      (ss_seq (pss_cons (s_set (ps_set (i := 2) sc_law.nd rfl (.inr rfl) (ev_b (pe_ix (ix_P (hu_of hr) (K := K) rfl) (ev_tup (pe_tup (ar_cons (pa_cons (ev_int pe_int) (ar_cons (pa_cons (ev_int pe_int) (ar_cons (pa_cons (ev_int pe_int) (ar_nil pa_nil))))))))) (ev_f (pe_callX G__law_draw (hr.mono (j := 1) (by decide)) rfl T.g__law_draw T.kp__law_draw (fun σ => passAt (takes_of rfl rfl rfl rfl) σ) (ar_cons (pa_cons (ev_v (pv 1)) (ar_cons (pa_cons (ev_int pe_int) (ar_nil pa_nil))))))) (fun _ _ => rfl)) (os_ix rfl))))
      (ss_seq (pss_cons (s_set (ps_set (i := 3) sc_law.nd rfl (.inr rfl) (ev_lcY (pe_lc (own := [("_law_k", 15)]) (g := gName 15) (tt := tYes) (by rfl) sc_law.nd (it_r1 (pi_range1 rfl T.z_range (ar_cons (pa_cons (ev_b (pe_op (op_addP (K := K) rfl) (ev_int pe_int) (ev_b (pe_op op_mulA (ev_int pe_int) (ev_f (pe_callX G__law_draw (hr.mono (j := 1) (by decide)) rfl T.g__law_draw T.kp__law_draw (fun σ => passAt (takes_of rfl rfl rfl rfl) σ) (ar_cons (pa_cons (ev_v (pv 1)) (ar_cons (pa_cons (ev_int pe_int) (ar_nil pa_nil)))))))) os_mul)) (os_add rfl)) (ar_nil pa_nil))))) (blkOk_by (own := [("_law_k", 15)]) (N := ["_law_script", "_law_pool", "_law_size", "_law_data", "_law_pace", "_law_store", "_law_other", "_law_view", "_law_twin", "_law_cells", "_law_values", "_law_at", "_law_value_here", "_law_due", "_law_rest", "_law_k", "_law_cell"]) (sc := defScope s_law) (by decide +kernel)) (fun _ _ _ _ _ => (pg_name (i := 15) sc_law.nd rfl (Or.inl rfl))) (fun _ _ _ _ _ => pts_nil) (fun _ _ _ _ _ => (ev_f (pe_callX G__law_draw (hr.mono (j := 1) (by decide)) rfl T.g__law_draw T.kp__law_draw (fun σ => passAt takes0 σ) (ar_cons (pa_cons (ev_v (pv 1)) (ar_cons (pa_cons (ev_int pe_int) (ar_nil pa_nil))))))))) pat_nm (by decide))))
      (ss_seq (pss_cons (s_set (ps_set (i := 4) sc_law.nd rfl (.inl rfl) (ev_b (pe_ix (ix_P (hu_of hr) (K := K) rfl) (ev_tup (pe_tup (ar_cons (pa_cons (ev_int pe_int) (ar_cons (pa_cons (ev_int pe_int) (ar_cons (pa_cons (ev_u (pe_un un_negI (ev_int pe_int)) us_neg) (ar_cons (pa_cons (ev_u (pe_un un_negI (ev_int pe_int)) us_neg) (ar_cons (pa_cons (ev_int pe_int) (ar_cons (pa_cons (ev_u (pe_un un_negI (ev_int pe_int)) us_neg) (ar_nil pa_nil))))))))))))))) (ev_f (pe_callX G__law_draw (hr.mono (j := 1) (by decide)) rfl T.g__law_draw T.kp__law_draw (fun σ => passAt (takes_of rfl rfl rfl rfl) σ) (ar_cons (pa_cons (ev_v (pv 1)) (ar_cons (pa_cons (ev_int pe_int) (ar_nil pa_nil))))))) (fun _ _ => rfl)) (os_ix rfl))))
      (ss_seq (pss_cons (s_set (ps_set (i := 5) sc_law.nd rfl (.inl rfl) (ev_mk (pe_makeX T.mk_Store G_Store___init__ (hr.mono (by decide)) rfl T.g_Store (fun σ => passAt (takes_of rfl rfl rfl rfl) σ) (ar_cons (pa_cons (ev_v (pv 3)) (ar_nil pa_nil)))))))
      (ss_seq (pss_cons (s_set (ps_set (i := 6) sc_law.nd rfl (.inl rfl) (ev_mk (pe_makeX T.mk_Store G_Store___init__ (hr.mono (by decide)) rfl T.g_Store (fun σ => passAt (takes_of rfl rfl rfl rfl) σ) (ar_cons (pa_cons (ev_v (pv 3)) (ar_nil pa_nil)))))))
      (ss_seq (pss_cons (s_set (ps_set (i := 7) sc_law.nd rfl (.inl rfl) (ev_mN0 (p := 4) (gD := (fun us ws => us ++ [.non] ++ [.non] ++ ((ws.drop 0).take 1))) (by exact (pe_methN0 (ks := ["step"]) (ev_m (pe_methX (ev_m0 (pe_methX0 (ev_v (pv 5)) T.cl_Store T.mt_Store_view G_Store_view (hr.mono (j := 5) (by decide)) (fun σ => passAt (takes_of rfl rfl rfl rfl) σ))) T.cl_View T.mt_View_cast G_View_cast (hr.mono (j := 6) (by decide)) (fun σ => passAt (takes_of rfl rfl rfl rfl) σ) (ar_cons (pa_cons (ev_v (pv 2)) (ar_nil pa_nil))))) T.cl_View T.mt_View_sliced (ok_View_sliced T) (hr.mono (j := 7) (by decide)) KB0 (fun σ => passAt (takes_of rfl rfl rfl rfl) σ) (ak_cons (pk_cons (ev_v (pv 4)) (ak_nil pk_nil))))) (fun h1 h2 => (((h1.append (.cons .non .nil)).append (.cons .non .nil)).append ((h2.drop 0).take 1))) (by intro ds es h1 h2; simp [h1, h2]))))
      (ss_seq (pss_cons (s_set (ps_set (i := 8) sc_law.nd rfl (.inl rfl) (ev_mN (p := 4) (gD := (fun us ws => us ++ ((ws.drop 0).take 1))) (by exact (pe_methN (ks := ["step"]) (ev_m (pe_methX (ev_m0 (pe_methX0 (ev_v (pv 6)) T.cl_Store T.mt_Store_view G_Store_view (hr.mono (j := 5) (by decide)) (fun σ => passAt (takes_of rfl rfl rfl rfl) σ))) T.cl_View T.mt_View_cast G_View_cast (hr.mono (j := 6) (by decide)) (fun σ => passAt (takes_of rfl rfl rfl rfl) σ) (ar_cons (pa_cons (ev_v (pv 2)) (ar_nil pa_nil))))) T.cl_View T.mt_View_sliced (ok_View_sliced T) (hr.mono (j := 7) (by decide)) KB1 (fun σ => passAt (takes_of rfl rfl rfl rfl) σ) (ar_cons (pa_cons (ev_non pe_non) (ar_cons (pa_cons (ev_non pe_non) (ar_nil pa_nil))))) (ak_cons (pk_cons (ev_v (pv 4)) (ak_nil pk_nil))))) (fun h1 h2 => (h1.append ((h2.drop 0).take 1))) (by intro ds es h1 h2; simp [h1, h2]))))
      (ss_seq (pss_cons (s_set (ps_set (i := 9) sc_law.nd rfl (.inl rfl) (ev_sl3 (pe_slice3 (ev_lcY (pe_lc (own := [("_law_k", 15)]) (g := gName 15) (tt := tYes) (by rfl) sc_law.nd (it_r3 (pi_range3 rfl T.z_range (ar_cons (pa_cons (ev_int pe_int) (ar_cons (pa_cons (ev_k (pe_callB (call_lenP (K := K) rfl) (by rfl) T.z_len (by decide +kernel) (ar_cons (pa_cons (ev_v (pv 3)) (ar_nil pa_nil)))) (cs_len rfl)) (ar_cons (pa_cons (ev_v (pv 2)) (ar_nil pa_nil))))))))) (blkOk_by (own := [("_law_k", 15)]) (N := ["_law_script", "_law_pool", "_law_size", "_law_data", "_law_pace", "_law_store", "_law_other", "_law_view", "_law_twin", "_law_cells", "_law_values", "_law_at", "_law_value_here", "_law_due", "_law_rest", "_law_k", "_law_cell"]) (sc := defScope s_law) (by decide +kernel)) (fun _ _ _ _ _ => (pg_name (i := 15) sc_law.nd rfl (Or.inl rfl))) (fun _ _ _ _ _ => pts_nil) (fun _ _ _ _ _ => (ev_lstRg (pe_listRg rfl (by rfl) T.z_list (prg_2 (by rfl) T.z_range (ev_v (pv 15)) (ev_b (pe_op (op_addP (K := K) rfl) (ev_v (pv 15)) (ev_v (pv 2))) (os_add rfl))))))) pat_nm (by decide)) (po_n po_none) (po_n po_none) (po_e (po_someN (ev_v (pv 4))))) rfl)))
      (ss_seq (pss_cons (s_setLc (ps_setLc (i := 10) (own := [("_law_cell", 16)]) (g := gName 16) (tt := tYes) (by rfl) sc_law.nd rfl rfl (sw_true rfl rfl rfl (by decide +kernel)) (it_seq (c := ec K (clA A)) (W := wE E) (pi_seq (ev_v (pv 9)) (K := K) rfl) rfl) (blkOk_by (own := [("_law_cell", 16)]) (N := ["_law_script", "_law_pool", "_law_size", "_law_data", "_law_pace", "_law_store", "_law_other", "_law_view", "_law_twin", "_law_cells", "_law_values", "_law_at", "_law_value_here", "_law_due", "_law_rest", "_law_k", "_law_cell"]) (sc := defScope s_law) (by decide +kernel)) (fun _ _ _ _ _ => (pg_name (i := 16) sc_law.nd rfl (Or.inl rfl))) (fun _ _ _ _ _ => pts_nil) (fun _ _ _ _ _ => (ev_f (c := ec K (clA A)) (pe_callX G__law_value (hr.mono (j := 1) (by decide)) rfl T.g__law_value T.kp__law_value (fun σ => passAt takes0 σ) (ar_cons (pa_cons (ev_lcY (pe_lc (own := [("_law_k", 15)]) (g := gName 15) (tt := tYes) (by rfl) sc_law.nd (it_seq (pi_seq (ev_v (pv 16)) (K := K) rfl) rfl) (blkOk_by (own := [("_law_k", 15)]) (by first | rfl | with_unfolding_all rfl)) (fun _ _ _ _ _ => (pg_name (i := 15) sc_law.nd rfl (Or.inl rfl))) (fun _ _ _ _ _ => pts_nil) (fun _ _ _ _ _ => (ev_b (pe_ix (ix_P (hu_of hr) (K := K) rfl) (ev_v (pv 3)) (ev_v (pv 15)) (fun _ _ => rfl)) (os_ix rfl)))) pat_nm (by decide)) (ar_nil pa_nil))))))) (tLc_e (fun _ _ _ z => tYes_e z) (fun _ _ _ z => z) pat_nm (by decide)))
      (ss_seq (pss_cons (s_if (ps_if (PW.pt (tw_or (pw_or (ts_not (pt_not (ts_e (pt_val (ev_f (pe_callX G__law_same (hr.mono (j := 13) (by decide)) rfl T.g__law_same T.kp__law_same (fun σ => passAt (takes_of rfl rfl rfl rfl) σ) (ar_cons (pa_cons (ev_m0 (pe_methX0 (ev_v (pv 7)) T.cl_View T.mt_View_listed G_View_listed (hr.mono (j := 3) (by decide)) (fun σ => passAt (takes_of rfl rfl rfl rfl) σ))) (ar_cons (pa_cons (ev_v (pv 10)) (ar_nil pa_nil))))))) (by intro _; rfl))))) (tw_or (pw_or (ts_not (pt_not (ts_b (pt_cmpR (op_eqOwn1 T.o_View___eq__ T.oq_View T.ol_View G_View___eq__ (hr.mono (by decide)) passL) (ev_v (pv 7)) (ev_v (pv 8)) (nomark _)) os_own1))) (tw_or (pw_or (ts_b (pt_cmpR (op_eqOwn1 T.o_View___eq__ T.oq_View T.ol_View G_View___eq__ (hr.mono (by decide)) passL) (ev_v (pv 7)) (ev_int pe_int) (nomark _)) os_own1) (pw_or1 (ts_b (pt_cmpR (op_eqOwn1 T.o_View___eq__ T.oq_View T.ol_View G_View___eq__ (hr.mono (by decide)) passL) (ev_v (pv 7)) (ev_v (pv 10)) (nomark _)) os_own1))))))))) (pss_one (s_ret (ps_ret (ev_bl pe_bl)))) (ss_nil pss_nil)))
      (ss_seq (pss_cons (s_set (ps_set (i := 11) sc_law.nd rfl (.inl rfl) (ev_f (pe_callX G__law_draw (hr.mono (j := 1) (by decide)) rfl T.g__law_draw T.kp__law_draw (fun σ => passAt (takes_of rfl rfl rfl rfl) σ) (ar_cons (pa_cons (ev_v (pv 1)) (ar_cons (pa_cons (ev_k (pe_callB (call_lenP (K := K) rfl) (by rfl) T.z_len (by decide +kernel) (ar_cons (pa_cons (ev_v (pv 9)) (ar_nil pa_nil)))) (cs_len rfl)) (ar_nil pa_nil)))))))))
      (ss_seq (pss_cons (s_set (ps_set (i := 12) sc_law.nd rfl (.inl rfl) (ev_if (pe_ifExp (ts_b (pt_cmpR (op_eqX (K := K) rfl (hu65 hr)) (ev_v (pv 2)) (ev_int pe_int) (nomark _)) (os_eqX rfl)) (ev_f (pe_callX G__law_draw (hr.mono (j := 1) (by decide)) rfl T.g__law_draw T.kp__law_draw (fun σ => passAt (takes_of rfl rfl rfl rfl) σ) (ar_cons (pa_cons (ev_v (pv 1)) (ar_cons (pa_cons (ev_b (pe_op op_powI (ev_int pe_int) (ev_int pe_int)) os_pow) (ar_nil pa_nil))))))) (ev_f (pe_callX G__law_draw (hr.mono (j := 1) (by decide)) rfl T.g__law_draw T.kp__law_draw (fun σ => passAt (takes_of rfl rfl rfl rfl) σ) (ar_cons (pa_cons (ev_v (pv 1)) (ar_cons (pa_cons (ev_b (pe_op op_mulA (ev_int pe_int) (ev_b (pe_op (op_addP (K := K) rfl) (ev_int pe_int) (ev_b (pe_op op_mulA (ev_int pe_int) (ev_b (pe_op op_subI (ev_v (pv 2)) (ev_int pe_int)) os_sub)) os_mul)) (os_add rfl))) os_mul) (ar_nil pa_nil)))))))))))
      (ss_seq (pss_cons (s_set (ps_set (i := 13) sc_law.nd rfl (.inl rfl) (ev_k (pe_callTy (call_listP rfl (K := K) rfl) (by rfl) T.z_list (by decide +kernel) (ar_cons (pa_cons (ev_v (pv 3)) (ar_nil pa_nil)))) (cs_list rfl))))
      (ss_seq (pss_cons (s_set (ps_set (i := 14) sc_law.nd rfl (.inl rfl) (ev_v (pv 12))))
      (ss_seq (pss_cons (s_for (ps_for (passes_of rfl) rfl (it_seq (pi_seq (ev_b (pe_ix (ix_P (hu_of hr) (K := K) rfl) (ev_v (pv 9)) (ev_v (pv 11)) (fun _ _ => rfl)) (os_ix rfl)) (K := K) rfl) rfl) (pg_name (i := 15) sc_law.nd rfl (.inl rfl)) (ss_seq (pss_cons (s_sub (ps_asg (ev_b (pe_op op_modZ (ev_k (pe_callTy call_intA (by rfl) T.z_int (by decide +kernel) (ar_cons (pa_cons (ev_v (pv 14)) (ar_nil pa_nil)))) cs_int) (ev_int pe_int)) os_mod) (pg_sub (ev_v (pv 13)) (ev_v (pv 15)) (set_P (hu_of hr)))))
      (pss_one (s_set (ps_set (i := 14) sc_law.nd rfl (.inl rfl) (ev_b (pe_op op_fdivZ (ev_v (pv 14)) (ev_int pe_int)) os_fdiv))))))) pat_nm)
      (ss_seq (pss_cons (s_subOwnX (ps_asg (ev_v (pv 12)) (pg_subOwnX (ev_v (pv 7)) (ev_b (pe_op op_subI (ev_v (pv 11)) (ev_b (pe_op op_mulA (ev_k (pe_callB (call_lenP (K := K) rfl) (by rfl) T.z_len (by decide +kernel) (ar_cons (pa_cons (ev_v (pv 9)) (ar_nil pa_nil)))) (cs_len rfl)) (ev_f (pe_callX G__law_draw (hr.mono (j := 1) (by decide)) rfl T.g__law_draw T.kp__law_draw (fun σ => passAt (takes_of rfl rfl rfl rfl) σ) (ar_cons (pa_cons (ev_v (pv 1)) (ar_cons (pa_cons (ev_int pe_int) (ar_nil pa_nil)))))))) os_mul)) os_sub) T.o_View___setitem__ T.ns_View G_View___setitem__ (hr.mono (j := 4) (by decide)) (fun σ => passAt (takes_of rfl rfl rfl rfl) σ))))
      (ss_seq (pss_cons (s_if (ps_if (PW.pt (tw_or (pw_or (ts_not (pt_not (ts_e (pt_val (ev_f (pe_callX G__law_same (hr.mono (j := 13) (by decide)) rfl T.g__law_same T.kp__law_same (fun σ => passAt (takes_of rfl rfl rfl rfl) σ) (ar_cons (pa_cons (ev_m0 (pe_methX0 (ev_v (pv 5)) T.cl_Store T.mt_Store_listed G_Store_listed (hr.mono (j := 1) (by decide)) (fun σ => passAt (takes_of rfl rfl rfl rfl) σ))) (ar_cons (pa_cons (ev_v (pv 13)) (ar_nil pa_nil))))))) (by intro _; rfl))))) (pw_or1 (ts_not (pt_not (ts_e (pt_val (ev_f (pe_callX G__law_same (hr.mono (j := 13) (by decide)) rfl T.g__law_same T.kp__law_same (fun σ => passAt (takes_of rfl rfl rfl rfl) σ) (ar_cons (pa_cons (ev_ixOwnX (pe_ixOwnX (ev_v (pv 7)) (ev_v (pv 11)) T.o_View___getitem__ T.fi_View___getitem__ G_View___getitem__ (hr.mono (by decide)) (fun σ => passAt (takes_of rfl rfl rfl rfl) σ))) (ar_cons (pa_cons (ev_v (pv 12)) (ar_nil pa_nil))))))) (by intro _; rfl))))))))) (pss_one (s_ret (ps_ret (ev_bl pe_bl)))) (ss_nil pss_nil)))
      (ss_seq (pss_cons (s_if (ps_if (PW.pt (tw_or (pw_or (ts_not (pt_not (ts_e (pt_val (ev_f (pe_callX G__law_flag (hr.mono (j := 1) (by decide)) rfl T.g__law_flag T.kp__law_flag (fun σ => passAt (takes_of rfl rfl rfl rfl) σ) (ar_cons (pa_cons (ev_inOwnX (pe_cmp (pc_inOwnX (ev_v (pv 12)) (ev_v (pv 7)) T.o_View___contains__ G_View___contains__ (hr.mono (j := 4) (by decide)) (fun σ => passAt (takes_of rfl rfl rfl rfl) σ)))) (ar_cons (pa_cons (ev_bl pe_bl) (ar_nil pa_nil))))))) (by intro _; rfl))))) (pw_or1 (ts_not (pt_not (ts_e (pt_val (ev_f (pe_callX G__law_flag (hr.mono (j := 1) (by decide)) rfl T.g__law_flag T.kp__law_flag (fun σ => passAt (takes_of rfl rfl rfl rfl) σ) (ar_cons (pa_cons (ev_inOwnX (pe_cmp (pc_inOwnX (ev_v (pv 12)) (ev_v (pv 8)) T.o_View___contains__ G_View___contains__ (hr.mono (j := 4) (by decide)) (fun σ => passAt (takes_of rfl rfl rfl rfl) σ)))) (ar_cons (pa_cons (ev_b (pe_cmpR (op_inX (K := K) rfl (hu65 hr)) (ev_v (pv 12)) (ev_v (pv 10)) rfl) (os_inX rfl)) (ar_nil pa_nil))))))) (by intro _; rfl))))))))) (pss_one (s_ret (ps_ret (ev_bl pe_bl)))) (ss_nil pss_nil)))
      (ss_seq (pss_cons (s_if (ps_if (ts_not (pt_not (ts_e (pt_val (ev_f (pe_callX G__law_flag (hr.mono (j := 1) (by decide)) rfl T.g__law_flag T.kp__law_flag (fun σ => passAt (takes_of rfl rfl rfl rfl) σ) (ar_cons (pa_cons (ev_b (pe_cmpR (op_eqOwn1 T.o_View___eq__ T.oq_View T.ol_View G_View___eq__ (hr.mono (by decide)) passL) (ev_v (pv 7)) (ev_v (pv 8)) (nomark _)) os_own1) (ar_cons (pa_cons (ev_b (pe_cmpR (op_eqX (K := K) rfl (hu65 hr)) (ev_v (pv 13)) (ev_v (pv 3)) (nomark _)) (os_eqX rfl)) (ar_nil pa_nil))))))) (by intro _; rfl))))) (pss_one (s_ret (ps_ret (ev_bl pe_bl)))) (ss_nil pss_nil)))
      (pss_one (s_ret (ps_ret (ev_and (pe_and (ev_f (pe_callX G__law_deeds (hr.mono (j := 9) (by decide)) rfl T.g__law_deeds T.kp__law_deeds (fun σ => passAt (takes_of rfl rfl rfl rfl) σ) (ar_cons (pa_cons (ev_v (pv 1)) (ar_cons (pa_cons (ev_v (pv 5)) (ar_cons (pa_cons (ev_v (pv 7)) (ar_cons (pa_cons (ev_v (pv 9)) (ar_nil pa_nil))))))))))) (ev_and (pe_and (ev_not (pe_not (ev_f (pe_callX G__law_gone (hr.mono (j := 4) (by decide)) rfl T.g__law_gone T.kp__law_gone (fun σ => passAt (takes_of rfl rfl rfl rfl) σ) (ar_cons (pa_cons (ev_v (pv 8)) (ar_nil pa_nil))))))) (pe_one (ev_not (pe_not (ev_b (pe_cmpR (op_eqOwn1 T.o_View___eq__ T.oq_View T.ol_View G_View___eq__ (hr.mono (by decide)) passL) (ev_v (pv 8)) (ev_v (pv 7)) (nomark _)) os_own1)))))))))))))))))))))))))))))))))))))))))))))))))))
end
end LbW
namespace Pu
open L2 PySem PySem.Spec PyProof.Rows Lb
abbrev Flds := Option (List (Str × D))
abbrev ErP := Nat → Flds → Sto → Prop
@[irreducible] def Rs {α : Type} (r : Res α) (Q : α → Sto → Prop) (E : ErP) : Prop := match r with
  | .ok x S => Q x S
  | .er C x S => E C x S
  | .no => False
abbrev NxP := Env → Sto → Prop
abbrev RtP := D → Sto → Prop
abbrev XxP := Nat → Flds → Env → Sto → Prop
@[irreducible] def Ot (o : Out) (N : NxP) (R : RtP) (B C : NxP) (X : XxP) : Prop := match o with
  | .nx e S => N e S
  | .rt d S => R d S
  | .bk e S => B e S
  | .ct e S => C e S
  | .er Z x e S => X Z x e S
  | .no => False
abbrev noE : ErP := fun _ _ _ => False
abbrev er1 (X : XxP) (e : Env) : ErP := fun C x S => X C x e S
section
variable {α β : Type} {r : Res α} {k : α → Sto → Res β} {Q Q' : α → Sto → Prop} {R : β → Sto → Prop} {E E' : ErP} {e : Env} {S S1 : Sto} {a b c : Ex} {t u : Bx} {N M N' : NxP} {RR RR' : RtP} {BB BB' CC CC' : NxP} {X X' : XxP} {f g : Sx} {i : Nat} {d x y z : D} {aa : Ax} {B : Bool → Sto → Prop} {QD : D → Sto → Prop} {QA : List D → Sto → Prop}
theorem Rs.okI {x : α} (h : Rs (.ok x S) Q E) : Q x S := by with_unfolding_all exact h
theorem Rs.mono (h : Rs r Q E) (q : ∀ x S, Q x S → Q' x S) (w : ∀ C x S, E C x S → E' C x S) : Rs r Q' E' := by
  cases r with
  | ok x S => with_unfolding_all exact q _ _ h
  | er C x S => with_unfolding_all exact w _ _ _ h
  | no => with_unfolding_all exact h
theorem Rs.to (h : Rs r Q noE) (q : ∀ x S, Q x S → Q' x S) : Rs r Q' E' := by with_unfolding_all exact h.mono q fun _ _ _ z => z.elim
theorem Rs.ok (h : Rs r Q noE) : ∃ x S, r = .ok x S ∧ Q x S := by
  cases r with
  | ok x S => with_unfolding_all exact ⟨x, S, rfl, h⟩
  | er C x S => with_unfolding_all exact h.elim
  | no => with_unfolding_all exact h.elim
theorem rs_bind (h : Rs r (fun x S => Rs (k x S) R E) E) : Rs (r.bind k) R E := by
  cases r with
  | ok x S => with_unfolding_all exact h
  | er C x S => with_unfolding_all exact h
  | no => with_unfolding_all exact h
theorem ot_st {k : α → Sto → Out} (h : Rs r (fun x S => Ot (k x S) N RR BB CC X) (er1 X e)) : Ot (r.st e k) N RR BB CC X := by
  cases r with
  | ok x S => with_unfolding_all exact h
  | er C x S => with_unfolding_all exact h
  | no => with_unfolding_all exact h
theorem Ot.mono {o : Out} (h : Ot o N RR BB CC X) (h1 : ∀ e S, N e S → N' e S) (h2 : ∀ d S, RR d S → RR' d S) (h3 : ∀ e S, BB e S → BB' e S) (h4 : ∀ e S, CC e S → CC' e S) (h5 : ∀ C x e S, X C x e S → X' C x e S) : Ot o N' RR' BB' CC' X' := by
  cases o with
  | nx e S => with_unfolding_all exact h1 _ _ h
  | rt d S => with_unfolding_all exact h2 _ _ h
  | bk e S => with_unfolding_all exact h3 _ _ h
  | ct e S => with_unfolding_all exact h4 _ _ h
  | er C x e S => with_unfolding_all exact h5 _ _ _ _ h
  | no => with_unfolding_all exact h
theorem rs_v (h : e[i]? = some (some (.v d))) (q : QD d S) : Rs (eV i e S) QD E := by unfold eV; rw [h]; with_unfolding_all exact q
theorem rs_c (q : QD d S) : Rs (eC d e S) QD E := by with_unfolding_all exact q
theorem rs_u {F : D → Sto → Res D} (h : Rs (a e S) (fun x S1 => Rs (F x S1) QD E) E) : Rs (eU F a e S) QD E := by with_unfolding_all exact rs_bind h
theorem rs_b {F : D → D → Sto → Res D} (h : Rs (a e S) (fun x S1 => Rs (b e S1) (fun y S2 => Rs (F x y S2) QD E) E) E) : Rs (eB F a b e S) QD E := by with_unfolding_all exact rs_bind (h.mono (fun _ _ z => rs_bind z) fun _ _ _ z => z)
theorem rs_asB {r : Res D} (h : Rs r (fun d S => ∃ b, d = .bl b ∧ B b S) E) : Rs (asB r) B E := by with_unfolding_all exact rs_bind (h.mono (fun d S ⟨b, z, q⟩ => by subst z; with_unfolding_all exact q) fun _ _ _ z => z)
theorem rs_bE (h : Rs (a e S) (fun d S => ∃ b, d = .bl b ∧ B b S) E) : Rs (bE a e S) B E := by with_unfolding_all exact rs_asB h
theorem rs_not (h : Rs (t e S) (fun b S => B (!b) S) E) : Rs (bNot t e S) B E := by with_unfolding_all exact rs_bind h
theorem rs_and (h : Rs (t e S) (fun k S1 => (k = true → Rs (u e S1) B E) ∧ (k = false → B false S1)) E) : Rs (bAnd t u e S) B E := rs_bind (h.mono (fun k S ⟨h1, h2⟩ => by
  cases k
  · with_unfolding_all exact h2 rfl
  · with_unfolding_all exact h1 rfl) fun _ _ _ z => z)
theorem rs_or (h : Rs (t e S) (fun k S1 => (k = true → B true S1) ∧ (k = false → Rs (u e S1) B E)) E) : Rs (bOr t u e S) B E := rs_bind (h.mono (fun k S ⟨h1, h2⟩ => by
  cases k
  · with_unfolding_all exact h2 rfl
  · with_unfolding_all exact h1 rfl) fun _ _ _ z => z)
theorem rs_andE (h : Rs (a e S) (fun d S1 => ∃ k, d = .bl k ∧ (k = true → Rs (b e S1) QD E) ∧ (k = false → QD (.bl false) S1)) E) : Rs (eAnd a b e S) QD E := rs_bind (rs_asB (h.mono (fun d S ⟨k, z, h1, h2⟩ => ⟨k, z, by
  cases k
  · with_unfolding_all exact h2 rfl
  · with_unfolding_all exact h1 rfl⟩) fun _ _ _ z => z))
theorem rs_orE (h : Rs (a e S) (fun d S1 => ∃ k, d = .bl k ∧ (k = true → QD (.bl true) S1) ∧ (k = false → Rs (b e S1) QD E)) E) : Rs (eOr a b e S) QD E := rs_bind (rs_asB (h.mono (fun d S ⟨k, z, h1, h2⟩ => ⟨k, z, by
  cases k
  · with_unfolding_all exact h2 rfl
  · with_unfolding_all exact h1 rfl⟩) fun _ _ _ z => z))
theorem rs_notE (h : Rs (a e S) (fun d S1 => ∃ k, d = .bl k ∧ QD (.bl (!k)) S1) E) : Rs (eNot a e S) QD E := by with_unfolding_all exact rs_bind (rs_asB h)
theorem rs_if (h : Rs (t e S) (fun k S1 => (k = true → Rs (a e S1) QD E) ∧ (k = false → Rs (b e S1) QD E)) E) : Rs (eIf t a b e S) QD E := rs_bind (h.mono (fun k S ⟨h1, h2⟩ => by
  cases k
  · with_unfolding_all exact h2 rfl
  · with_unfolding_all exact h1 rfl) fun _ _ _ z => z)
theorem rs_chain {F G : D → D → Sto → Res D} (h : Rs (a e S) (fun x S1 => Rs (b e S1) (fun y S2 => Rs (F x y S2) (fun d S3 => ∃ k, d = .bl k ∧ (k = true → Rs (c e S3) (fun z S4 => Rs (G y z S4) QD E) E) ∧ (k = false → QD (.bl false) S3)) E) E) E) : Rs (eChain F G a b c e S) QD E :=
  rs_bind (h.mono (fun x S1 z => rs_bind (z.mono (fun y S2 z => rs_bind (rs_asB (z.mono (fun d S3 ⟨k, z, h1, h2⟩ => ⟨k, z, by
    cases k
    · with_unfolding_all exact h2 rfl
    · with_unfolding_all exact rs_bind (h1 rfl)⟩) fun _ _ _ z => z))) fun _ _ _ z => z)) fun _ _ _ z => z)
theorem rs_aN (q : QA [] S) : Rs (aN e S) QA E := by with_unfolding_all exact q
theorem rs_aC (h : Rs (a e S) (fun x S1 => Rs (aa e S1) (fun xs S2 => QA (x :: xs) S2) E) E) : Rs (aC a aa e S) QA E := by with_unfolding_all exact rs_bind (h.mono (fun _ _ z => rs_bind z) fun _ _ _ z => z)
theorem rs_k {F : List D → Sto → Res D} (h : Rs (aa e S) (fun xs S1 => Rs (F xs S1) QD E) E) : Rs (eK F aa e S) QD E := by with_unfolding_all exact rs_bind h
theorem rs_f {p : Nat} {F : List D → Sto → Res D} (h : Rs (aa e S) (fun xs S1 => xs.length = p ∧ Rs (F xs S1) QD E) E) : Rs (eF p F aa e S) QD E := by with_unfolding_all exact rs_bind (h.mono (fun xs S ⟨h1, h2⟩ => by rw [if_pos h1]; with_unfolding_all exact h2) fun _ _ _ z => z)
theorem rs_m {C p : Nat} {m : Str} {F : List D → Sto → Res D} (h : Rs (a e S) (fun o S1 => isObj C m o S1 = true ∧ Rs (aa e S1) (fun xs S2 => xs.length + 1 = p ∧ Rs (F (o :: xs) S2) QD E) E) E) : Rs (eM C m p F a aa e S) QD E :=
  rs_bind (h.mono (fun o S ⟨h1, h2⟩ => by rw [if_pos h1]; with_unfolding_all exact rs_bind (h2.mono (fun xs S ⟨h1, h2⟩ => by rw [if_pos h1]; with_unfolding_all exact h2) fun _ _ _ z => z)) fun _ _ _ z => z)
theorem rs_bm {ty : D → Sto → Bool} {F : D → List D → Sto → Res D} (h : Rs (a e S) (fun o S1 => ty o S1 = true ∧ Rs (aa e S1) (fun xs S2 => Rs (F o xs S2) QD E) E) E) : Rs (eBm ty F a aa e S) QD E :=
  rs_bind (h.mono (fun o S ⟨h1, h2⟩ => by rw [if_pos h1]; with_unfolding_all exact rs_bind h2) fun _ _ _ z => z)
theorem rs_mkO {C p : Nat} {F : List D → Sto → Res D} {ds : List D} (hl : ds.length + 1 = p) (h : Rs (F (.ref S.length :: ds) (S ++ [.obj C []])) (fun v S2 => v = .non ∧ QD (.ref S.length) S2) E) : Rs (mkO C p F ds S) QD E := by
  unfold mkO
  rw [if_pos hl]
  revert h
  cases F (.ref S.length :: ds) (S ++ [.obj C []]) with
  | ok x S2 => intro hh; obtain ⟨rfl, h⟩ := Rs.okI hh; with_unfolding_all exact h
  | er C x S2 => with_unfolding_all exact fun h => h
  | no => with_unfolding_all exact fun h => h
theorem rs_pN {QO : Option Int → Sto → Prop} (q : QO none S) : Rs (pN e S) QO E := by with_unfolding_all exact q
theorem rs_pE {QO : Option Int → Sto → Prop} (h : Rs (a e S) (fun d S1 => (∃ i, d = .int i ∧ QO (some i) S1) ∨ (d = .non ∧ QO none S1)) E) : Rs (pE a e S) QO E := rs_bind (h.mono (fun d S z => by
  rcases z with ⟨i, rfl, z⟩ | ⟨rfl, z⟩
  · with_unfolding_all exact z
  · with_unfolding_all exact z) fun _ _ _ z => z)
theorem rs_sl {p q : Env → Sto → Res (Option Int)} (h : Rs (a e S) (fun x S1 => Rs (p e S1) (fun lo S2 => Rs (q e S2) (fun hi S3 => Rs (dSl x lo hi S3) QD E) E) E) E) : Rs (eSl a p q e S) QD E :=
  rs_bind (h.mono (fun _ _ z => rs_bind (z.mono (fun _ _ z => rs_bind z) fun _ _ _ z => z)) fun _ _ _ z => z)
theorem rs_get1 (h : Rs (a e S) (fun d S1 => isDct d S1 = true ∧ Rs (b e S1) (fun k S2 => ∃ r, getS d k S2 = some r ∧ QD (r.getD .non) S2) E) E) : Rs (eGet1 a b e S) QD E :=
  rs_bind (h.mono (fun d S ⟨h1, h2⟩ => by rw [if_pos h1]; with_unfolding_all exact rs_bind (h2.mono (fun k S ⟨r, h3, h4⟩ => by rw [h3]; with_unfolding_all exact h4) fun _ _ _ z => z)) fun _ _ _ z => z)
theorem rs_get2 (h : Rs (a e S) (fun d S1 => isDct d S1 = true ∧ Rs (b e S1) (fun k S2 => Rs (c e S2) (fun x S3 => ∃ r, getS d k S3 = some r ∧ QD (r.getD x) S3) E) E) E) : Rs (eGet2 a b c e S) QD E :=
  rs_bind (h.mono (fun d S ⟨h1, h2⟩ => by rw [if_pos h1]; with_unfolding_all exact rs_bind (h2.mono (fun k S z => rs_bind (z.mono (fun x S ⟨r, h3, h4⟩ => by rw [h3]; with_unfolding_all exact h4) fun _ _ _ z => z)) fun _ _ _ z => z)) fun _ _ _ z => z)
theorem ot_next (q : N e S) : Ot (sNext e S) N RR BB CC X := by with_unfolding_all exact q
theorem ot_seq (h : Ot (f e S) (fun e S => Ot (g e S) N RR BB CC X) RR BB CC X) : Ot (sSeq f g e S) N RR BB CC X := by
  unfold sSeq Out.seq
  revert h
  cases f e S <;> with_unfolding_all exact fun h => h
theorem ot_cut (M : NxP) (h : Ot (f e S) M RR BB CC X) (k : ∀ e S, M e S → Ot (g e S) N RR BB CC X) : Ot (sSeq f g e S) N RR BB CC X :=
  ot_seq (h.mono k (fun _ _ z => z) (fun _ _ z => z) (fun _ _ z => z) fun _ _ _ _ z => z)
theorem ot_bk (q : BB e S) : Ot (sBk e S) N RR BB CC X := by with_unfolding_all exact q
theorem ot_ct (q : CC e S) : Ot (sCt e S) N RR BB CC X := by with_unfolding_all exact q
theorem ot_drop (h : Rs (a e S) (fun _ S1 => N e S1) (er1 X e)) : Ot (sDrop a e S) N RR BB CC X := by with_unfolding_all exact ot_st h
theorem ot_ret (h : Rs (a e S) RR (er1 X e)) : Ot (sRet a e S) N RR BB CC X := by with_unfolding_all exact ot_st h
theorem ot_retN (q : RR .non S) : Ot (sRetN e S) N RR BB CC X := by with_unfolding_all exact q
theorem ot_if (h : Rs (t e S) (fun k S1 => (k = true → Ot (f e S1) N RR BB CC X) ∧ (k = false → Ot (g e S1) N RR BB CC X)) (er1 X e)) : Ot (sIf t f g e S) N RR BB CC X := ot_st (h.mono (fun k S ⟨h1, h2⟩ => by
  cases k
  · with_unfolding_all exact h2 rfl
  · with_unfolding_all exact h1 rfl) fun _ _ _ z => z)
theorem ot_set (h : Rs (a e S) (fun d S1 => N (e.set i (some (.v d))) S1) (er1 X e)) : Ot (sSet i a e S) N RR BB CC X := by with_unfolding_all exact ot_st h
theorem ot_asg {p : Pat} (h : Rs (a e S) (fun d S1 => ∃ e1, p.bind d e = some e1 ∧ N e1 S1) (er1 X e)) : Ot (sAsg p a e S) N RR BB CC X := by with_unfolding_all exact ot_st (h.mono (fun d S ⟨e1, h1, h2⟩ => by rw [h1]; with_unfolding_all exact h2) fun _ _ _ z => z)
theorem ot_par {j : Nat} (h : Rs (aa e S) (fun ds S1 => ∃ x y, ds = [x, y] ∧ N ((e.set i (some (.v x))).set j (some (.v y))) S1) (er1 X e)) : Ot (sPar i j aa e S) N RR BB CC X := by with_unfolding_all exact ot_st (h.mono (fun d S ⟨x, y, h1, h2⟩ => by rw [h1]; with_unfolding_all exact h2) fun _ _ _ z => z)
theorem ot_fld {cs : List Nat} {n : Str} (h : Rs (b e S) (fun d S1 => Rs (a e S1) (fun x S2 => ∃ S3, fputD cs n x d S2 = some S3 ∧ N e S3) (er1 X e)) (er1 X e)) : Ot (sFldP cs n a b e S) N RR BB CC X := by with_unfolding_all exact ot_st (h.mono (fun d S z => ot_st (z.mono (fun x S ⟨S3, h1, h2⟩ => by rw [h1]; with_unfolding_all exact h2) fun _ _ _ z => z)) fun _ _ _ z => z)
theorem ot_sub (h : Rs (c e S) (fun d S1 => Rs (a e S1) (fun x S2 => Rs (b e S2) (fun k S3 => ∃ S4, setS x k d S3 = some S4 ∧ N e S4) (er1 X e)) (er1 X e)) (er1 X e)) : Ot (sSub a b c e S) N RR BB CC X :=
  ot_st (h.mono (fun d S z => ot_st (z.mono (fun x S z => ot_st (z.mono (fun x S ⟨S3, h1, h2⟩ => by rw [h1]; with_unfolding_all exact h2) fun _ _ _ z => z)) fun _ _ _ z => z)) fun _ _ _ z => z)
theorem ot_aug {F : D → D → Sto → Res D} (he : e[i]? = some (some (.v d))) (h : Rs (a e S) (fun y S1 => Rs (F d y S1) (fun z S2 => N (e.set i (some (.v z))) S2) (er1 X e)) (er1 X e)) : Ot (sAug i F a e S) N RR BB CC X := by
  unfold sAug
  rw [he]
  with_unfolding_all exact ot_st (h.mono (fun d S z => ot_st z) fun _ _ _ z => z)
theorem ot_raiseX {C : Nat} {n : Str} (h : Rs (aa e S) (fun ds S1 => ∃ d, ds = [d] ∧ X C (some [(n, d)]) e S1) (er1 X e)) : Ot (sRaiseX C n aa e S) N RR BB CC X := by with_unfolding_all exact ot_st (h.mono (fun ds S ⟨d, h1, h2⟩ => by rw [h1]; with_unfolding_all exact h2) fun _ _ _ z => z)
theorem ot_raiseY {C : Nat} (q : X C none e S) : Ot (sRaiseY C e S) N RR BB CC X := by with_unfolding_all exact q
/-- a body -/
theorem rs_fn {n : Nat} {ds : List D} (h : Ot (g (envS n ds) S) (fun _ S => QD .non S) QD (fun _ _ => False) (fun _ _ => False) (fun C x _ S => E C x S)) : Rs (fnS n g ds S) QD E := by
  unfold fnS endS
  revert h
  cases g (envS n ds) S <;> first | with_unfolding_all exact fun h => h | with_unfolding_all exact fun h => h.elim
theorem ot_for {it : Ix} {p : Pat} (h : Rs (it e S) (fun kd S1 => Ot (loopS kd.1 p g kd.2 e S1) N RR BB CC X) (er1 X e)) : Ot (sFor it p g e S) N RR BB CC X := by with_unfolding_all exact ot_st h
theorem loop_inv {k : Chk} {p : Pat} {ds : List D} {e : Env} {S : Sto} (I : Nat → Env → Sto → Prop) (h0 : I 0 e S) (hk : ∀ i e S, I i e S → ChkOk k S)
    (hs : ∀ i d e S, ds[i]? = some d → I i e S → ∃ e1, p.bind d e = some e1 ∧ Ot (g e1 S) (I (i + 1)) RR N (I (i + 1)) X) (hd : ∀ e S, I ds.length e S → N e S) : Ot (loopS k p g ds e S) N RR BB CC X := by
  have key : ∀ (r : List D) (i : Nat) (e : Env) (S : Sto), ds.drop i = r → i ≤ ds.length → I i e S → Ot (loopS k p g r e S) N RR BB CC X := by
    intro r
    induction r with
    | nil =>
      intro i e S hr hi h
      have : i = ds.length := by
        have := congrArg List.length hr
        rw [List.length_drop] at this
        simp at this
        omega
      subst this
      unfold loopS
      rw [if_pos (hk _ _ _ h)]
      with_unfolding_all exact hd _ _ h
    | cons d r ih =>
      intro i e S hr hi h
      have hlt : i < ds.length := by
        apply Nat.lt_of_not_le
        intro z
        rw [List.drop_eq_nil_of_le z] at hr
        cases hr
      rw [List.drop_eq_getElem_cons hlt] at hr
      cases hr
      obtain ⟨e1, hb, q⟩ := hs i _ e S (List.getElem?_eq_getElem hlt) h
      unfold loopS
      rw [if_pos (hk _ _ _ h), hb]
      dsimp only
      revert q
      cases g e1 S with
      | nx e2 S2 => with_unfolding_all exact fun q => ih (i + 1) e2 S2 rfl hlt q
      | ct e2 S2 => with_unfolding_all exact fun q => ih (i + 1) e2 S2 rfl hlt q
      | bk e2 S2 => with_unfolding_all exact fun q => q
      | rt d S2 => with_unfolding_all exact fun q => q
      | er C y e2 S2 => with_unfolding_all exact fun q => q
      | no => with_unfolding_all exact fun q => q
  with_unfolding_all exact key ds 0 e S rfl (Nat.zero_le _) h0
end
end Pu
namespace Pu
open L2 PySem PySem.Spec PyProof.Rows Lb
/-- all objects of S but those at L stand in S' -/
structure Fr (L : List Nat) (S S' : Sto) : Prop where
  len : S.length ≤ S'.length
  get : ∀ {j : Nat} {o : Ob}, j ∉ L → S[j]? = some o → S'[j]? = some o
theorem lt_of {S : Sto} {j : Nat} {o : Ob} (h : S[j]? = some o) : j < S.length := (List.getElem?_eq_some_iff.mp h).1
section
variable {S S' S1 S2 : Sto} {L L' : List Nat} {l j : Nat} {o u : Ob}
theorem Fr.refl : Fr L S S := ⟨Nat.le_refl _, fun _ h => h⟩
theorem Fr.trans (a : Fr L S S1) (b : Fr L S1 S2) : Fr L S S2 := ⟨Nat.le_trans a.len b.len, fun n h => b.get n (a.get n h)⟩
theorem Fr.mono (a : Fr L S S1) (h : ∀ x ∈ L, x ∈ L') : Fr L' S S1 := ⟨a.len, fun n k => a.get (fun z => n (h _ z)) k⟩
theorem Fr.nil (a : Fr [] S S1) : Fr L S S1 := a.mono fun _ h => by cases h
theorem Fr.g0 (a : Fr [] S S1) (h : S[j]? = some o) : S1[j]? = some o := a.get (by simp) h
theorem Fr.push : Fr L S (S ++ [o]) := ⟨by simp, fun {j u} _ h => by rw [List.getElem?_append_left (lt_of h)]; with_unfolding_all exact h⟩
theorem at_push : (S ++ [o])[S.length]? = some o := by simp
theorem Fr.set : Fr [l] S (S.set l o) := ⟨by simp, fun {j u} n h => by rw [List.getElem?_set_ne (fun z => n (by simp [z]))]; with_unfolding_all exact h⟩
theorem at_set (h : S[l]? = some u) : (S.set l o)[l]? = some o := List.getElem?_set_self (lt_of h)
/-- new places only beside those of L -/
theorem Fr.cut (a : Fr L S S1) (h : ∀ x ∈ L, x ∈ L' ∨ S.length ≤ x) : Fr L' S S1 := ⟨a.len, fun {j o} n k => a.get (fun z => (h _ z).elim n fun w => by have := lt_of k; omega) k⟩
end
theorem big_of {i : Int} (h : -10 ^ 60 < i) (h' : i < 10 ^ 60) : i.natAbs < big := Nat.lt_trans (show i.natAbs < 10 ^ 60 by omega) (by unfold big; decide)
theorem ot_seq_set {i : Nat} {a : Ex} {g : Sx} {e : Env} {S : Sto} {N : NxP} {R : RtP} {B C : NxP} {X : XxP} (h : Ot ((sSet i a) e S) (fun e S => Ot (g e S) N R B C X) R B C X) : Ot (sSeq (sSet i a) g e S) N R B C X := by with_unfolding_all exact ot_seq h
theorem ot_seq_sub {a b c : Ex} {g : Sx} {e : Env} {S : Sto} {N : NxP} {R : RtP} {B C : NxP} {X : XxP} (h : Ot ((sSub a b c) e S) (fun e S => Ot (g e S) N R B C X) R B C X) : Ot (sSeq (sSub a b c) g e S) N R B C X := by with_unfolding_all exact ot_seq h
theorem ot_seq_drop {a : Ex} {g : Sx} {e : Env} {S : Sto} {N : NxP} {R : RtP} {B C : NxP} {X : XxP} (h : Ot ((sDrop a) e S) (fun e S => Ot (g e S) N R B C X) R B C X) : Ot (sSeq (sDrop a) g e S) N R B C X := by with_unfolding_all exact ot_seq h
theorem ot_seq_fld {cs : List Nat} {n : Str} {a b : Ex} {g : Sx} {e : Env} {S : Sto} {N : NxP} {R : RtP} {B C : NxP} {X : XxP} (h : Ot ((sFldP cs n a b) e S) (fun e S => Ot (g e S) N R B C X) R B C X) : Ot (sSeq (sFldP cs n a b) g e S) N R B C X := by with_unfolding_all exact ot_seq h
theorem ot_seq_asg {p : Pat} {a : Ex} {g : Sx} {e : Env} {S : Sto} {N : NxP} {R : RtP} {B C : NxP} {X : XxP} (h : Ot ((sAsg p a) e S) (fun e S => Ot (g e S) N R B C X) R B C X) : Ot (sSeq (sAsg p a) g e S) N R B C X := by with_unfolding_all exact ot_seq h
theorem ot_seq_par {i j : Nat} {aa : Ax} {g : Sx} {e : Env} {S : Sto} {N : NxP} {R : RtP} {B C : NxP} {X : XxP} (h : Ot ((sPar i j aa) e S) (fun e S => Ot (g e S) N R B C X) R B C X) : Ot (sSeq (sPar i j aa) g e S) N R B C X := by with_unfolding_all exact ot_seq h
theorem ot_seq_aug {i : Nat} {F : D → D → Sto → Res D} {a : Ex} {g : Sx} {e : Env} {S : Sto} {N : NxP} {R : RtP} {B C : NxP} {X : XxP} (h : Ot ((sAug i F a) e S) (fun e S => Ot (g e S) N R B C X) R B C X) : Ot (sSeq (sAug i F a) g e S) N R B C X := by with_unfolding_all exact ot_seq h
theorem ot_seq_fldaug {cs : List Nat} {n : Str} {F : D → D → Sto → Res D} {a b : Ex} {g : Sx} {e : Env} {S : Sto} {N : NxP} {R : RtP} {B C : NxP} {X : XxP} (h : Ot ((sFldAugP cs n F a b) e S) (fun e S => Ot (g e S) N R B C X) R B C X) : Ot (sSeq (sFldAugP cs n F a b) g e S) N R B C X := by with_unfolding_all exact ot_seq h
theorem ot_seq_next  {g : Sx} {e : Env} {S : Sto} {N : NxP} {R : RtP} {B C : NxP} {X : XxP} (h : Ot ((sNext) e S) (fun e S => Ot (g e S) N R B C X) R B C X) : Ot (sSeq (sNext) g e S) N R B C X := by with_unfolding_all exact ot_seq h
section
variable {S S1 : Sto} {Q : D → Sto → Prop} {QB : Bool → Sto → Prop} {E : ErP} {a b : Int} {l m : Nat} {xs ys ds : List D} {d x y : D} {s t : Str}
theorem rs_ok {α : Type} {x : α} {Q : α → Sto → Prop} (q : Q x S) : Rs (.ok x S) Q E := by with_unfolding_all exact q
theorem rs_addI (q : Q (.int (a + b)) S) : Rs (dAdd (.int a) (.int b) S) Q E := by with_unfolding_all exact q
theorem rs_addL (h1 : S[l]? = some (.lst xs)) (h2 : S[m]? = some (.lst ys)) (h : xs.length + ys.length ≤ 100000) (q : ∀ S', Fr [] S S' → S'[S.length]? = some (.lst (xs ++ ys)) → S'.length = S.length + 1 → Q (.ref S.length) S') : Rs (dAdd (.ref l) (.ref m) S) Q E := by
  unfold dAdd; dsimp only; rw [h1, h2]; dsimp only; rw [if_pos h]; with_unfolding_all exact q _ Fr.push at_push (by simp)
theorem rs_subI (q : Q (.int (a - b)) S) : Rs (dSub (.int a) (.int b) S) Q E := by with_unfolding_all exact q
theorem rs_mulI (h : a.natAbs < big ∧ b.natAbs < big) (q : Q (.int (a * b)) S) : Rs (dMul (.int a) (.int b) S) Q E := by unfold dMul; dsimp only; rw [if_pos h]; with_unfolding_all exact q
theorem rs_fdivI (h : b ≠ 0 ∧ b.natAbs < big) (q : Q (.int (a.fdiv b)) S) : Rs (dFdiv (.int a) (.int b) S) Q E := by unfold dFdiv; dsimp only; rw [if_pos h]; with_unfolding_all exact q
theorem rs_modI (h : b ≠ 0) (q : Q (.int (a.fmod b)) S) : Rs (dMod (.int a) (.int b) S) Q E := by unfold dMod; dsimp only; rw [if_pos h]; with_unfolding_all exact q
theorem rs_modP (h : 0 < b) (q : Q (.int (a % b)) S) : Rs (dMod (.int a) (.int b) S) Q E := by with_unfolding_all exact rs_modI (by omega) (by rw [Int.fmod_eq_emod_of_nonneg _ (by omega)]; with_unfolding_all exact q)
theorem rs_fdivP (h : 0 < b) (h' : b < 10 ^ 60) (q : Q (.int (a / b)) S) : Rs (dFdiv (.int a) (.int b) S) Q E := by with_unfolding_all exact rs_fdivI ⟨by omega, big_of (by omega) h'⟩ (by rw [Int.fdiv_eq_ediv_of_nonneg _ (by omega)]; with_unfolding_all exact q)
theorem rs_mulP (h1 : -10 ^ 60 < a) (h2 : a < 10 ^ 60) (h3 : -10 ^ 60 < b) (h4 : b < 10 ^ 60) (q : Q (.int (a * b)) S) : Rs (dMul (.int a) (.int b) S) Q E := by with_unfolding_all exact rs_mulI ⟨big_of h1 h2, big_of h3 h4⟩ q
theorem rs_powI (h : 0 ≤ b ∧ b ≤ 1000 ∧ a.natAbs < 2 ^ 64) (q : Q (.int (a ^ b.toNat)) S) : Rs (dPow (.int a) (.int b) S) Q E := by unfold dPow; dsimp only; rw [if_pos h]; with_unfolding_all exact q
theorem rs_negI (q : Q (.int (-a)) S) : Rs (dNeg (.int a) S) Q E := by with_unfolding_all exact q
theorem rs_ltI (q : Q (.bl (decide (a < b))) S) : Rs (dLt (.int a) (.int b) S) Q E := by with_unfolding_all exact q
theorem rs_leI (q : Q (.bl (decide (a ≤ b))) S) : Rs (dLe (.int a) (.int b) S) Q E := by with_unfolding_all exact q
theorem rs_gtI (q : Q (.bl (decide (b < a))) S) : Rs (dGt (.int a) (.int b) S) Q E := by with_unfolding_all exact q
theorem rs_geI (q : Q (.bl (decide (b ≤ a))) S) : Rs (dGe (.int a) (.int b) S) Q E := by with_unfolding_all exact q
theorem rs_isi_t {t u : Ty} (h : x.kd S = some (.ty u)) (hb : u.le t = true) (q : Q (.bl true) S) : Rs (isiTy t x S) Q E := by unfold isiTy; rw [h]; dsimp only; rw [hb]; with_unfolding_all exact q
theorem rs_isi_f {t u : Ty} (h : x.kd S = some (.ty u)) (hb : u.le t = false) (q : Q (.bl false) S) : Rs (isiTy t x S) Q E := by unfold isiTy; rw [h]; dsimp only; rw [hb]; with_unfolding_all exact q
theorem rs_isi_n {t : Ty} (h : x.kd S = some .non) (q : Q (.bl false) S) : Rs (isiTy t x S) Q E := by unfold isiTy; rw [h]; with_unfolding_all exact q
theorem rs_isN_t (h : x.isNon = true) (q : Q (.bl true) S) : Rs (dIsN x .non S) Q E := by unfold dIsN; rw [h]; with_unfolding_all exact q
theorem rs_isN_f (h : x.isNon = false) (q : Q (.bl false) S) : Rs (dIsN x .non S) Q E := by unfold dIsN; rw [h]; with_unfolding_all exact q
theorem rs_isnt_t (h : x.isNon = true) (q : Q (.bl false) S) : Rs (dIsntN x .non S) Q E := by unfold dIsntN; rw [h]; with_unfolding_all exact q
theorem rs_isnt_f (h : x.isNon = false) (q : Q (.bl true) S) : Rs (dIsntN x .non S) Q E := by unfold dIsntN; rw [h]; with_unfolding_all exact q
theorem rs_isN (q : Q (.bl x.isNon) S) : Rs (dIsN x .non S) Q E := by with_unfolding_all exact q
theorem rs_isntN (q : Q (.bl (!x.isNon)) S) : Rs (dIsntN x .non S) Q E := by with_unfolding_all exact q
theorem eqX_sc {v w : V} (h1 : x.sc = some v) (h2 : y.sc = some w) (h : scal v w = true) : eqX x y S = some (decide (v = w)) := by
  have e : eqD x y S = some (decide (v = w)) := by unfold eqD; rw [h1, h2]; dsimp only; rw [if_pos h]
  unfold eqX
  split
  · cases h1
  · with_unfolding_all exact e
theorem eqX_int : eqX (.int a) (.int b) S = some (decide (a = b)) := by
  rw [eqX_sc (v := .int a) (w := .int b) rfl rfl rfl]
  simp
theorem eqX_str : eqX (.str s) (.str t) S = some (decide (s = t)) := by
  rw [eqX_sc (v := .str s) (w := .str t) rfl rfl rfl]
  simp
theorem rs_eqI (q : Q (.bl (decide (a = b))) S) : Rs (dEqX (.int a) (.int b) S) Q E := by unfold dEqX; rw [eqX_int]; with_unfolding_all exact q
theorem rs_neI (q : Q (.bl (!decide (a = b))) S) : Rs (dNeX (.int a) (.int b) S) Q E := by unfold dNeX; rw [eqX_int]; with_unfolding_all exact q
theorem rs_eqS (q : Q (.bl (decide (s = t))) S) : Rs (dEqX (.str s) (.str t) S) Q E := by unfold dEqX; rw [eqX_str]; with_unfolding_all exact q
theorem rs_neS (q : Q (.bl (!decide (s = t))) S) : Rs (dNeX (.str s) (.str t) S) Q E := by unfold dNeX; rw [eqX_str]; with_unfolding_all exact q
theorem rs_ix (h : idxD x y S = some d) (q : Q d S) : Rs (dIdx x y S) Q E := by unfold dIdx; rw [h]; with_unfolding_all exact q
theorem rs_ixL (h : S[l]? = some (.lst ds)) (h2 : atI ds a = some d) (q : Q d S) : Rs (dIdx (.ref l) (.int a) S) Q E := by with_unfolding_all exact rs_ix (by unfold idxD; dsimp only; rw [h]; with_unfolding_all exact h2) q
theorem rs_ixT (h2 : atI ds a = some d) (q : Q d S) : Rs (dIdx (.tup ds) (.int a) S) Q E := by with_unfolding_all exact rs_ix h2 q
theorem rs_ixF (h2 : atI ds a = some d) (q : Q d S) : Rs (dIdx (.lsf ds) (.int a) S) Q E := by with_unfolding_all exact rs_ix h2 q
theorem rs_len {n : Nat} (h : lenD x S = some n) (q : Q (.int n) S) : Rs (bLen [x] S) Q E := by unfold bLen; dsimp only; rw [h]; with_unfolding_all exact q
theorem rs_lenL (h : S[l]? = some (.lst ds)) (q : Q (.int ds.length) S) : Rs (bLen [.ref l] S) Q E := by with_unfolding_all exact rs_len (by unfold lenD; dsimp only; rw [h]) q
theorem rs_lenT (q : Q (.int ds.length) S) : Rs (bLen [.tup ds] S) Q E := by with_unfolding_all exact rs_len rfl q
theorem rs_lenF (q : Q (.int ds.length) S) : Rs (bLen [.lsf ds] S) Q E := by with_unfolding_all exact rs_len rfl q
theorem rs_lenS (h : s.length ≤ 100000) (q : Q (.int s.length) S) : Rs (bLen [.str s] S) Q E := by with_unfolding_all exact rs_len (by unfold lenD; dsimp only; rw [if_pos h]) q
theorem len_c {xs : List D} {p : Nat} {A : Prop} (h : xs.length = p) (a : A) : xs.length = p ∧ A := ⟨h, a⟩
theorem len_c1 {xs : List D} {p : Nat} {A : Prop} (h : xs.length + 1 = p) (a : A) : xs.length + 1 = p ∧ A := ⟨h, a⟩
theorem rs_intI (q : Q (.int a) S) : Rs (bInt [.int a] S) Q E := by with_unfolding_all exact q
theorem rs_intB {k : Bool} (q : Q (.int (if k = true then 1 else 0)) S) : Rs (bInt [.bl k] S) Q E := by with_unfolding_all exact q
theorem rs_boolB {k : Bool} (q : Q (.bl k) S) : Rs (bBool [.bl k] S) Q E := by with_unfolding_all exact q
theorem rs_absI (q : Q (.int (if a < 0 then -a else a)) S) : Rs (bAbs [.int a] S) Q E := by with_unfolding_all exact q
theorem rs_min2 (q : Q (.int (if b < a then b else a)) S) : Rs (bMin2 [.int a, .int b] S) Q E := by with_unfolding_all exact q
theorem rs_max2 (q : Q (.int (if b > a then b else a)) S) : Rs (bMax2 [.int a, .int b] S) Q E := by with_unfolding_all exact q
theorem rs_tupT (q : Q (.tup ds) S) : Rs (bTuple [.tup ds] S) Q E := by with_unfolding_all exact q
theorem rs_tupL (h : S[l]? = some (.lst ds)) (q : Q (.tup ds) S) : Rs (bTuple [.ref l] S) Q E := by unfold bTuple; dsimp only; rw [h]; with_unfolding_all exact q
theorem rs_mkT (h : ds.length ≤ 100000) (q : Q (.tup ds) S) : Rs (mkT ds S) Q E := by unfold mkT; rw [if_pos h]; with_unfolding_all exact q
theorem rs_mkL (q : ∀ S', Fr [] S S' → S'[S.length]? = some (.lst ds) → S'.length = S.length + 1 → Q (.ref S.length) S') (h : ds.length ≤ 100000 := by with_unfolding_all exact Nat.le_of_ble_eq_true rfl) : Rs (mkL ds S) Q E := by unfold mkL; rw [if_pos h]; with_unfolding_all exact q _ Fr.push at_push (by simp)
/-- a list that is read at once: [a, b][i] -/
theorem rs_bl {k : Bool} {B : Bool → Prop} (q : B k) : ∃ b, D.bl k = .bl b ∧ B b := ⟨k, rfl, q⟩
theorem if_d {p : Prop} [Decidable p] {A B : Prop} (a : p → A) (b : ¬ p → B) : (decide p = true → A) ∧ (decide p = false → B) := ⟨fun h => a (of_decide_eq_true h), fun h => b (of_decide_eq_false h)⟩
theorem if_nd {p : Prop} [Decidable p] {A B : Prop} (a : ¬ p → A) (b : p → B) : ((!decide p) = true → A) ∧ ((!decide p) = false → B) := ⟨fun h => a (fun q => (by simp [q] at h)), fun h => b (Decidable.byContradiction fun q => by simp [q] at h)⟩
theorem if_t {A B : Prop} (a : A) : (true = true → A) ∧ (true = false → B) := ⟨fun _ => a, fun h => by cases h⟩
theorem if_f {A B : Prop} (a : B) : (false = true → A) ∧ (false = false → B) := ⟨fun h => (by cases h), fun _ => a⟩
theorem if_nt {A B : Prop} (b : B) : ((!true) = true → A) ∧ ((!true) = false → B) := ⟨fun h => (by cases h), fun _ => b⟩
theorem if_nf {A B : Prop} (a : A) : ((!false) = true → A) ∧ ((!false) = false → B) := ⟨fun _ => a, fun h => (by cases h)⟩
theorem if_y {p : Prop} [Decidable p] {A B : Prop} (h : p) (a : A) : (decide p = true → A) ∧ (decide p = false → B) := ⟨fun _ => a, fun q => absurd h (of_decide_eq_false q)⟩
theorem if_ny {p : Prop} [Decidable p] {A B : Prop} (h : p) (b : B) : ((!decide p) = true → A) ∧ ((!decide p) = false → B) := ⟨fun q => (by simp [h] at q), fun _ => b⟩
theorem if_nn {p : Prop} [Decidable p] {A B : Prop} (h : ¬ p) (a : A) : ((!decide p) = true → A) ∧ ((!decide p) = false → B) := ⟨fun _ => a, fun q => (by simp [h] at q)⟩
theorem if_n {p : Prop} [Decidable p] {A B : Prop} (h : ¬ p) (a : B) : (decide p = true → A) ∧ (decide p = false → B) := ⟨fun q => absurd (of_decide_eq_true q) h, fun _ => a⟩
theorem rs_append (h : S[l]? = some (.lst ds)) (hl : ds.length < 100000) (q : ∀ S', Fr [l] S S' → S'[l]? = some (.lst (ds ++ [d])) → S'.length = S.length → Q .non S') : Rs (mAppend (.ref l) [d] S) Q E := by
  unfold mAppend; dsimp only; rw [h]; dsimp only; rw [if_pos hl]; with_unfolding_all exact q _ Fr.set (at_set h) (by simp)
theorem rs_extend (h : S[l]? = some (.lst ds)) (h2 : S[m]? = some (.lst xs)) (hl : ds.length + xs.length ≤ 100000) (q : ∀ S', Fr [l] S S' → S'[l]? = some (.lst (ds ++ xs)) → S'.length = S.length → Q .non S') : Rs (mExtend (.ref l) [.ref m] S) Q E := by
  unfold mExtend; dsimp only; rw [h, h2]; dsimp only; rw [if_pos hl]; with_unfolding_all exact q _ Fr.set (at_set h) (by simp)
theorem atI_nat {n : Nat} (h : ds[n]? = some d) : atI ds (n : Int) = some d := by
  have hl := (List.getElem?_eq_some_iff.mp h).1
  unfold atI ixN
  rw [if_pos (by omega), if_pos (by omega)]
  simpa using h
theorem atI_int {i : Int} (h0 : 0 ≤ i) (h : ds[i.toNat]? = some d) : atI ds i = some d := by
  have := atI_nat h
  rwa [Int.toNat_of_nonneg h0] at this
theorem atN {α : Type} {ds : List α} {d : α} {n : Nat} {i : Int} (hi : i = (n : Int)) (h : ds[n]? = some d) : atI ds i = some d := by
  subst hi
  have hl := (List.getElem?_eq_some_iff.mp h).1
  unfold atI ixN
  rw [if_pos (by omega), if_pos (by omega)]
  simpa using h
theorem rs_in_t (h : inD x y S = some true) (q : Q (.bl true) S) : Rs (dInD x y S) Q E := by unfold dInD; rw [h]; with_unfolding_all exact q
theorem rs_in_f (h : inD x y S = some false) (q : Q (.bl false) S) : Rs (dInD x y S) Q E := by unfold dInD; rw [h]; with_unfolding_all exact q
theorem rs_nin_t (h : inD x y S = some true) (q : Q (.bl false) S) : Rs (dNinD x y S) Q E := by unfold dNinD; rw [h]; with_unfolding_all exact q
theorem rs_nin_f (h : inD x y S = some false) (q : Q (.bl true) S) : Rs (dNinD x y S) Q E := by unfold dNinD; rw [h]; with_unfolding_all exact q
theorem isLst_at (h : S[l]? = some (.lst ds)) : isLst (.ref l) S = true := by unfold isLst; dsimp only; rw [h]
theorem isObj_of {C : Nat} {m : Str} {fs : List (Str × D)} (h : S[l]? = some (.obj C fs)) (hf : lkF m fs = none) : isObj C m (.ref l) S = true := by unfold isObj; dsimp only; rw [h]; dsimp only; rw [hf]; simp
theorem ex_setL {R : Sto → Prop} {j : Nat} (h : S[l]? = some (.lst ds)) (hi : ixN ds.length a = some j) (q : ∀ S4, Fr [l] S S4 → S4[l]? = some (.lst (ds.set j d)) → S4.length = S.length → R S4) : ∃ S4, setS (.ref l) (.int a) d S = some S4 ∧ R S4 :=
  ⟨_, by unfold setS; dsimp only; rw [h]; dsimp only; rw [hi], q _ Fr.set (at_set h) (by simp)⟩
theorem ex_setK {R : Sto → Prop} {k : Key} {kvs : List (Key × D)} (h : S[l]? = some (.dic kvs)) (hk : x.key = some k) (hl : kvs.length < 100000) (q : ∀ S4, Fr [l] S S4 → S4[l]? = some (.dic (putD kvs k d)) → S4.length = S.length → R S4) : ∃ S4, setS (.ref l) x d S = some S4 ∧ R S4 :=
  ⟨_, by unfold setS; dsimp only; rw [h]; dsimp only; rw [hk]; dsimp only; rw [if_pos hl], q _ Fr.set (at_set h) (by simp)⟩
theorem ex_fld {R : Sto → Prop} {cs : List Nat} {C : Nat} {n : Str} {fs : List (Str × D)} (h : S[l]? = some (.obj C fs)) (hc : C ∈ cs) (hl : fs.length < 1000) (q : ∀ S4, Fr [l] S S4 → S4[l]? = some (.obj C (putF' n d fs)) → S4.length = S.length → R S4) : ∃ S4, fputD cs n (.ref l) d S = some S4 ∧ R S4 :=
  ⟨_, by unfold fputD; dsimp only; rw [h]; dsimp only; rw [if_pos ⟨hc, hl⟩], q _ Fr.set (at_set h) (by simp)⟩
theorem rs_fldD {cs : List Nat} {C : Nat} {n : Str} {fs : List (Str × D)} (h : S[l]? = some (.obj C fs)) (hc : C ∈ cs) (hf : lkF n fs = some d) (q : Q d S) : Rs (fldD cs n (.ref l) S) Q E := by
  unfold fldD; dsimp only; rw [h]; dsimp only; rw [if_pos hc, hf]; with_unfolding_all exact q
theorem rs_ixK {k : Key} {kvs : List (Key × D)} (h : S[l]? = some (.dic kvs)) (hk : x.key = some k) (hv : valD k kvs = some d) (q : Q d S) : Rs (dIdx (.ref l) x S) Q E := rs_ix (by
  unfold idxD; dsimp only; rw [h]; dsimp only [getD', dgetD]; rw [hk]; dsimp only; rw [hv]) q
theorem rs_itR1 {aa : Ax} {e : Env} {QI : Chk × List D → Sto → Prop} (h : Rs (aa e S) (fun ds S1 => ∃ j : Int, ds = [.int j] ∧ (-(2 ^ 62) ≤ j ∧ j < 2 ^ 62) ∧ QI (none, rngD 0 j.toNat) S1) E) : Rs (itR1 aa e S) QI E := by with_unfolding_all exact rs_bind (h.mono (fun ds S ⟨j, h1, h2, h3⟩ => by subst h1; dsimp only; rw [if_pos ⟨h2.2, h2.1⟩]; with_unfolding_all exact h3) fun _ _ _ z => z)
theorem rs_itR2 {aa : Ax} {e : Env} {QI : Chk × List D → Sto → Prop} (h : Rs (aa e S) (fun ds S1 => ∃ i j : Int, ds = [.int i, .int j] ∧ (-(2 ^ 62) ≤ i ∧ i < 2 ^ 62 ∧ -(2 ^ 62) ≤ j ∧ j < 2 ^ 62) ∧ QI (none, rngD i (j - i).toNat) S1) E) : Rs (itR2 aa e S) QI E := by with_unfolding_all exact rs_bind (h.mono (fun ds S ⟨i, j, h1, h2, h3⟩ => by subst h1; dsimp only; rw [if_pos ⟨⟨h2.2.2.2, h2.2.2.1⟩, h2.2.1, h2.1⟩]; with_unfolding_all exact h3) fun _ _ _ z => z)
theorem rs_itSeq {f : Ex} {e : Env} {QI : Chk × List D → Sto → Prop} (h : Rs (f e S) (fun d S1 => (∃ ds, d = .tup ds ∧ QI (none, ds) S1) ∨ (∃ l ds, d = .ref l ∧ S1[l]? = some (.lst ds) ∧ QI (some (l, .lst ds), ds) S1) ∨ ∃ z, d = .str z ∧ QI (none, signsD z) S1) E) : Rs (itSeq f e S) QI E := rs_bind (h.mono (fun d S z => by
  rcases z with ⟨ds, rfl, z⟩ | ⟨l, ds, rfl, z1, z⟩ | ⟨w, rfl, z⟩
  · with_unfolding_all exact z
  · dsimp only; rw [z1]; with_unfolding_all exact z
  · with_unfolding_all exact z) fun _ _ _ z => z)
theorem rng_get {lo : Int} {n i : Nat} {d : D} (h : (rngD lo n)[i]? = some d) : d = .int (lo + (i : Nat)) ∧ i < n := by
  unfold rngD at h
  rw [List.getElem?_map] at h
  obtain ⟨k, h1, rfl⟩ := Option.map_eq_some_iff.mp h
  obtain ⟨h2, h3⟩ := List.getElem?_eq_some_iff.mp h1
  rw [List.getElem_range] at h3
  subst h3
  with_unfolding_all exact ⟨rfl, by simpa using h2⟩
theorem rng_len {lo : Int} {n : Nat} : (rngD lo n).length = n := by simp [rngD]
theorem ot_fldaug {cs : List Nat} {n : Str} {F : D → D → Sto → Res D} {a b : Ex} {e : Env} {N : NxP} {R : RtP} {B C : NxP} {X : XxP}
    (h : Rs (a e S) (fun o S1 => ∃ l Z fs d, o = .ref l ∧ S1[l]? = some (.obj Z fs) ∧ Z ∈ cs ∧ lkF n fs = some d ∧ Rs (b e S1) (fun y S2 => Rs (F d y S2) (fun z S3 => ∃ S4, fputD [Z] n (.ref l) z S3 = some S4 ∧ N e S4) (er1 X e)) (er1 X e)) (er1 X e)) : Ot (sFldAugP cs n F a b e S) N R B C X :=
  ot_st (h.mono (fun o S1 ⟨l, Z, fs, d, h1, h2, h3, h4, h5⟩ => by
    subst h1
    dsimp only
    rw [h2]
    dsimp only
    rw [if_pos h3, h4]
    with_unfolding_all exact ot_st (h5.mono (fun y S2 z => ot_st (z.mono (fun w S3 ⟨S4, k1, k2⟩ => by rw [k1]; with_unfolding_all exact k2) fun _ _ _ z => z)) fun _ _ _ z => z)) fun _ _ _ z => z)
theorem rs_addII {a b : Int} (q : Q (.int (a + b)) S) : Rs (dAddI (.int a) (.int b) S) Q E := by with_unfolding_all exact q
theorem rs_subII {a b : Int} (q : Q (.int (a - b)) S) : Rs (dSubI (.int a) (.int b) S) Q E := by with_unfolding_all exact q
end
end Pu
namespace Pu
open L2 PySem PySem.Spec PyProof.Rows Lb
section
variable {α : Type} {r : Res α} {x : α} {S S1 S2 : Sto} {o a ka va : Ex} {t : Bx} {e : Env} {p : Pat} {g : Sx} {l : Nat} {kvs : List (Key × D)} {N : NxP} {R : RtP} {B C : NxP} {X : XxP} {Q : D → Sto → Prop} {E : ErP} {it : Ix} {vs : List Nat} {k : Chk}
theorem Rs.toEq (h : Rs r (fun d S' => d = x ∧ S = S') noE) : r = .ok x S := by
  obtain ⟨d, S', h1, h2, h3⟩ := h.ok
  rw [h1, h2, h3]
theorem rs_comp (h : Rs (it e S) (fun kd S1 => kd.2.length ≤ 100000 ∧ ∃ ys S2, loopC kd.1 p t a kd.2 (wipeE e vs) S1 = .ok ys S2 ∧ ∀ S3, Fr [] S2 S3 → S3[S2.length]? = some (.lst ys) → S3.length = S2.length + 1 → Q (.ref S2.length) S3) E) : Rs (eComp it p vs t a e S) Q E :=
  rs_bind (h.mono (fun kd S1 ⟨h1, ys, S2, h2, h3⟩ => by
    rw [if_pos h1, h2]
    exact rs_ok (h3 _ Fr.push at_push (by simp))) fun _ _ _ z => z)
theorem loopC_pure (f : D → Option D) (hk : ChkOk k S) : ∀ (ds : List D), (∀ d ∈ ds, ∃ e1, p.bind d e = some e1 ∧ ((f d = none ∧ t e1 S = .ok false S) ∨ ∃ y, f d = some y ∧ t e1 S = .ok true S ∧ a e1 S = .ok y S)) → loopC k p t a ds e S = .ok (ds.filterMap f) S
  | [], _ => by unfold loopC; rw [if_pos hk]; rfl
  | d :: ds, h => by
    obtain ⟨e1, hb, h1⟩ := h d (by simp)
    have ih := loopC_pure f hk ds fun d hd => h d (by simp [hd])
    unfold loopC
    rw [if_pos hk, hb]
    dsimp only
    rcases h1 with ⟨h1, h2⟩ | ⟨y, h1, h2, h3⟩
    · rw [h2]; dsimp only; rw [ih, List.filterMap_cons, h1]
    · rw [h2]; dsimp only; rw [h3]; dsimp only; rw [ih, List.filterMap_cons, h1]
theorem rs_listL {ds : List D} (h : S[l]? = some (.lst ds)) (q : ∀ S', Fr [] S S' → S'[S.length]? = some (.lst ds) → S'.length = S.length + 1 → Q (.ref S.length) S') : Rs (bList [.ref l] S) Q E := by
  unfold bList; dsimp only; rw [h]; exact rs_ok (q _ Fr.push at_push (by simp))
end
end Pu
namespace Pu
open L2 PySem PySem.Spec PyProof.Rows Lb
/-- a piece of data without objects, not deeper than n -/
def Dta (n : Nat) (d : D) : Prop := ∃ p : PyData, (∀ m S, n < m → toP m S d = some p) ∧ p.canLay0 = true ∧ p.depth ≤ n ∧ PyData.eqv p p = true
theorem Dta.non {n : Nat} : Dta n .non := ⟨.none, fun m S h => by cases m with | zero => omega | succ m => rfl, rfl, by simp [PyData.depth], rfl⟩
theorem Dta.bl {n : Nat} {b : Bool} : Dta n (.bl b) := ⟨.bool b, fun m S h => by cases m with | zero => omega | succ m => rfl, rfl, by simp [PyData.depth], by simp [PyData.eqv]⟩
theorem Dta.int {n : Nat} {i : Int} : Dta n (.int i) := ⟨.int i, fun m S h => by cases m with | zero => omega | succ m => rfl, rfl, by simp [PyData.depth], by simp [PyData.eqv]⟩
theorem Dta.str {n : Nat} {s : Str} (h : PyData.canLay0 (.str s) = true) : Dta n (.str s) := ⟨.str s, fun m S h => by cases m with | zero => omega | succ m => rfl, h, by simp [PyData.depth], by simp [PyData.eqv]⟩
theorem Dta.all {n : Nat} : ∀ {ds : List D}, (∀ d ∈ ds, Dta n d) → ∃ ps : List PyData, (∀ m S, n < m → allSome (toP m S) ds = some ps) ∧ PyData.canLayAll0 ps = true ∧ PyData.depthAll ps ≤ n ∧ PyData.eqvAll ps ps = true
  | [], _ => ⟨[], fun _ _ _ => rfl, rfl, by simp [PyData.depthAll], rfl⟩
  | d :: ds, h => by
    obtain ⟨p, h1, h2, h3, h4⟩ := h d (by simp)
    obtain ⟨ps, k1, k2, k3, k4⟩ := Dta.all (ds := ds) fun x hx => h x (by simp [hx])
    refine ⟨p :: ps, fun m S hm => by rw [allSome, h1 m S hm, k1 m S hm], by simp [PyData.canLayAll0, h2, k2], by simp only [PyData.depthAll]; omega, by simp [PyData.eqvAll, h4, k4]⟩
theorem Dta.tup {n : Nat} {ds : List D} (h : ∀ d ∈ ds, Dta n d) : Dta (n + 1) (.tup ds) := by
  obtain ⟨ps, k1, k2, k3, k4⟩ := Dta.all h
  refine ⟨.tuple ps, fun m S hm => ?_, by simpa [PyData.canLay0] using k2, by simp only [PyData.depth]; omega, by simpa [PyData.eqv] using k4⟩
  cases m with
  | zero => omega
  | succ m => rw [toP, k1 m S (by omega)]; rfl
theorem Dta.le {n m : Nat} {d : D} (h : Dta n d) (k : n ≤ m) : Dta m d := by
  obtain ⟨p, h1, h2, h3, h4⟩ := h
  exact ⟨p, fun j S hj => h1 j S (by omega), h2, by omega, h4⟩
section
variable {gb : Sx} {hs : List Hdl} {e : Env} {S : Sto} {N : NxP} {R : RtP} {B C : NxP} {X : XxP}
theorem ot_tryM {k : Nat} (h : Ot (gb e S) N R B C (fun Z x e1 S1 => Ot (handM k hs Z x e1 S1) N R B C X)) : Ot (sTryM k hs gb e S) N R B C X := by
  unfold sTryM
  generalize gb e S = oo at h
  cases oo with
  | er Z x e1 S1 => with_unfolding_all exact h
  | _ => unfold Ot at h ⊢; exact h
theorem ot_hdN {k Z : Nat} {x : Flds} {tbl : Nat → Option Bool} {o : Option Nat} {gs : Nat → Flds → Sx} {r : List Hdl} (ht : tbl Z = some false) (h : Ot (handM k r Z x e S) N R B C X) : Ot (handM k ((tbl, o, gs) :: r) Z x e S) N R B C X := by
  unfold handM; rw [ht]; exact h
theorem ot_hdU {k Z : Nat} {x : Flds} {tbl : Nat → Option Bool} {gs : Nat → Flds → Sx} {r : List Hdl} (ht : tbl Z = some true) (h : Ot (gs Z x e S) N R B C (fun _ _ _ _ => False)) : Ot (handM k ((tbl, none, gs) :: r) Z x e S) N R B C X := by
  unfold handM; rw [ht]; dsimp only
  generalize gs Z x e S = o2 at h
  cases o2 <;> (unfold Out.quiet Ot; unfold Ot at h; first | exact h | exact h.elim)
end
end Pu
namespace Pu
open L2 PySem PySem.Spec PyProof.Rows Lb
section
variable {S : Sto} {e : Env} {Q : D → Sto → Prop} {E : ErP} {fa fb fo fi : Ex} {aa ak : Ax} {g : Sx} {F : List D → Sto → Res D} {C : Nat} {N : NxP} {RR : RtP} {BB CC : NxP} {X : XxP} {x y d : D} {ds : List D} {a b : Int} {l : Nat}
theorem isIns_of {fs : List (Str × D)} (h : S[l]? = some (.obj C fs)) : isIns C (.ref l) S = true := by unfold isIns; dsimp only; rw [h]; simp
theorem rs_ixOwnX (h : Rs (fa e S) (fun o S1 => Rs (fb e S1) (fun i S2 => isIns C o S2 = true ∧ Rs (F [o, i] S2) Q E) E) E) : Rs (eIxOwnX C F fa fb e S) Q E :=
  rs_bind (h.mono (fun o S1 h => rs_bind (h.mono (fun i S2 ⟨h1, h2⟩ => by rw [if_pos h1]; exact h2) fun _ _ _ z => z)) fun _ _ _ z => z)
theorem rs_lenOwnX (h : Rs (aa e S) (fun ds S1 => ∃ o, ds = [o] ∧ isIns C o S1 = true ∧ Rs (F [o] S1) (fun r S2 => ∃ n : Int, r = .int n ∧ (0 ≤ n ∧ n < 2 ^ 63) ∧ Q (.int n) S2) E) E) : Rs (eLenOwnX C F aa e S) Q E :=
  rs_bind (h.mono (fun ds S1 ⟨o, e1, h1, h2⟩ => by
    subst e1
    dsimp only
    rw [if_pos h1]
    exact rs_bind (h2.mono (fun r S2 ⟨n, e2, h3, q⟩ => by subst e2; dsimp only; rw [if_pos h3]; exact rs_ok q) fun _ _ _ z => z)) fun _ _ _ z => z)
theorem rs_inOwnX (h : Rs (fa e S) (fun d S1 => Rs (fb e S1) (fun o S2 => isIns C o S2 = true ∧ Rs (F [o, d] S2) (fun r S3 => ∃ k : Bool, r = .bl k ∧ Q (.bl k) S3) E) E) E) : Rs (eInOwnX C F fa fb e S) Q E :=
  rs_bind (h.mono (fun d S1 h => rs_bind (h.mono (fun o S2 ⟨h1, h2⟩ => by
    rw [if_pos h1]
    exact rs_bind (h2.mono (fun r S3 ⟨k, e2, q⟩ => by subst e2; exact rs_ok q) fun _ _ _ z => z)) fun _ _ _ z => z)) fun _ _ _ z => z)
theorem ot_subOwnX (h : Rs (fa e S) (fun d S1 => Rs (fo e S1) (fun o S2 => Rs (fi e S2) (fun i S3 => isIns C o S3 = true ∧ Rs (F [o, i, d] S3) (fun _ S4 => N e S4) (er1 X e)) (er1 X e)) (er1 X e)) (er1 X e)) : Ot (sSubOwnX C F fo fi fa e S) N RR BB CC X :=
  ot_st (h.mono (fun d S1 h => ot_st (h.mono (fun o S2 h => ot_st (h.mono (fun i S3 ⟨h1, h2⟩ => by
    rw [if_pos h1]
    exact ot_st (h2.mono (fun _ S4 z => by with_unfolding_all exact z) fun _ _ _ z => z)) fun _ _ _ z => z)) fun _ _ _ z => z)) fun _ _ _ z => z)
theorem rs_tabI {kvs : List (Int × Int)} {j : Int} (h : lkI a kvs = some j) (q : Q (.int j) S) : Rs (tabI kvs (.int a) S) Q E := by unfold tabI; dsimp only; rw [h]; exact rs_ok q
theorem rs_lstRg (h : Rs (fa e S) (fun x S1 => Rs (fb e S1) (fun y S2 => ∃ i j : Int, x = .int i ∧ y = .int j ∧ ((-(2 ^ 62) ≤ i ∧ i < 2 ^ 62 ∧ -(2 ^ 62) ≤ j ∧ j < 2 ^ 62) ∧ (j - i).toNat ≤ 100000) ∧ ∀ S', Fr [] S2 S' → S'[S2.length]? = some (.lst (rngD i (j - i).toNat)) → S'.length = S2.length + 1 → Q (.ref S2.length) S') E) E) : Rs (eLstRg fa fb e S) Q E :=
  rs_bind (h.mono (fun x S1 h => rs_bind (h.mono (fun y S2 ⟨i, j, e1, e2, hb, q⟩ => by
    subst e1 e2
    dsimp only
    rw [if_pos hb]
    exact rs_ok (q _ Fr.push at_push (by simp))) fun _ _ _ z => z)) fun _ _ _ z => z)
theorem rs_m1 {m : Str} (h : Rs (fo e S) (fun o S1 => isObj C m o S1 = true ∧ Rs (F [o] S1) Q E) E) : Rs (eM1 C m F fo e S) Q E :=
  rs_bind (h.mono (fun o S1 ⟨h1, h2⟩ => by rw [if_pos h1]; exact h2) fun _ _ _ z => z)
theorem rs_mN {m : Str} {n mk : Nat} {gD : List D → List D → List D} (h : Rs (fo e S) (fun o S1 => isObj C m o S1 = true ∧ Rs (aa e S1) (fun ds S2 => Rs (ak e S2) (fun zs S3 => (ds.length + 1 = n ∧ zs.length = mk) ∧ Rs (F (gD (o :: ds) zs) S3) Q E) E) E) E) : Rs (eMN C m n mk gD F fo aa ak e S) Q E :=
  rs_bind (h.mono (fun o S1 ⟨h1, h2⟩ => by
    rw [if_pos h1]
    exact rs_bind (h2.mono (fun ds S2 h => rs_bind (h.mono (fun zs S3 ⟨h3, h4⟩ => by rw [if_pos h3]; exact h4) fun _ _ _ z => z)) fun _ _ _ z => z)) fun _ _ _ z => z)
theorem rs_callL {i p : Nat} (he : e[i]? = some (some (.x 0))) (h : Rs (aa e S) (fun ds S1 => ds.length = p ∧ Rs (F ds S1) Q E) E) : Rs (eCallL i p F aa e S) Q E := by
  unfold eCallL
  rw [he]
  exact rs_bind (h.mono (fun ds S1 ⟨h1, h2⟩ => by rw [if_pos h1]; exact h2) fun _ _ _ z => z)
theorem rs_fn1 {d : D} (h : Ot (g [some (.v d), some (.x 0)] S) (fun _ S => Q .non S) Q (fun _ _ => False) (fun _ _ => False) (fun C x _ S => E C x S)) : Rs (fnS1 g [d] S) Q E := by
  unfold fnS1 endS
  dsimp only
  generalize g [some (.v d), some (.x 0)] S = oo at h
  cases oo <;> (unfold Ot at h; unfold Rs; first | exact h | exact h.elim)
theorem rs_own (hx : isIns C x S = true) (hy : isIns C y S = true) (h : Rs (F [x, y] S) Q noE) : Rs (dOwn C F x y S) Q E := by
  obtain ⟨d, S1, e1, h1⟩ := h.ok
  unfold dOwn
  rw [if_pos ⟨hx, hy⟩, e1]
  exact rs_ok h1
theorem rs_ownI (hx : isIns C x S = true) (h : Rs (F [x, .int a] S) Q noE) : Rs (dOwnI C F x (.int a) S) Q E := by
  obtain ⟨d, S1, e1, h1⟩ := h.ok
  unfold dOwnI
  dsimp only
  rw [if_pos hx, e1]
  exact rs_ok h1
theorem obj_c {m : Str} {fs : List (Str × D)} {B : Prop} (h : S[l]? = some (.obj C fs)) (hf : lkF m fs = none) (q : B) : isObj C m (.ref l) S = true ∧ B := ⟨isObj_of h hf, q⟩
theorem ins_c {fs : List (Str × D)} {B : Prop} (h : S[l]? = some (.obj C fs)) (q : B) : isIns C (.ref l) S = true ∧ B := ⟨isIns_of h, q⟩
theorem lst_c {B : Prop} (h : S[l]? = some (.lst ds)) (q : B) : isLst (.ref l) S = true ∧ B := ⟨isLst_at h, q⟩
theorem rs_itEnum {QI : Chk × List D → Sto → Prop} (h : Rs (aa e S) (fun vs S1 => (∃ l ds, vs = [.ref l] ∧ S1[l]? = some (.lst ds) ∧ QI (some (l, .lst ds), enumF 0 ds) S1) ∨ ∃ ds, vs = [.tup ds] ∧ QI (none, enumF 0 ds) S1) E) : Rs (itEnum aa e S) QI E :=
  rs_bind (h.mono (fun vs S1 z => by
    rcases z with ⟨l, ds, rfl, h1, q⟩ | ⟨ds, rfl, q⟩
    · dsimp only; rw [h1]; exact rs_ok q
    · exact rs_ok q) fun _ _ _ z => z)
theorem rs_itRev {QI : Chk × List D → Sto → Prop} (h : Rs (fa e S) (fun d S1 => ∃ l ds, d = .ref l ∧ S1[l]? = some (.lst ds) ∧ QI (some (l, .lst ds), ds.reverse) S1) E) : Rs (itRev fa e S) QI E :=
  rs_bind (h.mono (fun vs S1 ⟨l, ds, e1, h1, q⟩ => by subst e1; dsimp only; rw [h1]; exact rs_ok q) fun _ _ _ z => z)
theorem rs_band (q : Q (.int (Builtin.bitAnd a b)) S) : Rs (dBand (.int a) (.int b) S) Q E := rs_ok q
theorem rs_shr (h : 0 ≤ b) (q : Q (.int (a / 2 ^ b.toNat)) S) : Rs (dShr (.int a) (.int b) S) Q E := by unfold dShr; dsimp only; rw [if_pos h]; exact rs_ok q
theorem rs_isiTys {ts : List Ty} {k : Bool} (h : isiTys ts x S = .ok (.bl k) S) (q : Q (.bl k) S) : Rs (isiTys ts x S) Q E := by rw [h]; exact rs_ok q
theorem rs_cutL {lo hi : Option Int} (h : S[l]? = some (.lst ds)) (q : ∀ S', Fr [] S S' → S'[S.length]? = some (.lst (Pu.cutD ds lo hi)) → S'.length = S.length + 1 → Q (.ref S.length) S') : Rs (dSl (.ref l) lo hi S) Q E := by
  have e1 : (D.ref l).seq S = some ds := by unfold D.seq; dsimp only; rw [h]
  unfold dSl; dsimp only; rw [e1]; exact rs_ok (q _ Fr.push at_push (by simp))
theorem rs_disp {L : List (Str × Ex)} (h : Rs (aDs L e (S ++ [.dic []])) (fun ds S2 => S2[S.length]? = some (.dic []) ∧ ∀ S3, Fr [S.length] S2 S3 → S3[S.length]? = some (.dic (mergeD [] ((L.map fun p => (.inr p.1 : Key)).zip ds))) → S3.length = S2.length → Q (.ref S.length) S3) E) : Rs (eDisp L e S) Q E :=
  rs_bind (h.mono (fun ds S2 ⟨h1, q⟩ => by
    rw [h1]
    exact rs_ok (q _ Fr.set (at_set h1) (by simp))) fun _ _ _ z => z)
end
/-- a comprehension, turn by turn -/
theorem loopC_inv {k : Chk} {p : Pat} {tb : Bx} {a : Ex} {e : Env} : ∀ (ds : List D) (I : Nat → List D → Sto → Prop) (i : Nat) (ys : List D) (S : Sto), I i ys S → (∀ j zs T, I j zs T → ChkOk k T) →
    (∀ j d zs T, ds[j]? = some d → I (i + j) zs T → ∃ e1, p.bind d e = some e1 ∧ Rs (tb e1 T) (fun b T1 => (b = true → Rs (a e1 T1) (fun y T2 => I (i + j + 1) (zs ++ [y]) T2) noE) ∧ (b = false → I (i + j + 1) zs T1)) noE) →
    ∃ zs T, loopC k p tb a ds e S = .ok zs T ∧ I (i + ds.length) (ys ++ zs) T
  | [], I, i, ys, S, h0, hk, _ => ⟨[], S, by unfold loopC; rw [if_pos (hk _ _ _ h0)], by simpa using h0⟩
  | d :: ds, I, i, ys, S, h0, hk, hs => by
    obtain ⟨e1, hb, h1⟩ := hs 0 d ys S rfl h0
    obtain ⟨b, S1, eb, h2, h3⟩ := h1.ok
    unfold loopC
    rw [if_pos (hk _ _ _ h0), hb]
    dsimp only
    have hs' : ∀ j d zs T, ds[j]? = some d → I (i + 1 + j) zs T → ∃ e1, p.bind d e = some e1 ∧ Rs (tb e1 T) (fun b T1 => (b = true → Rs (a e1 T1) (fun y T2 => I (i + 1 + j + 1) (zs ++ [y]) T2) noE) ∧ (b = false → I (i + 1 + j + 1) zs T1)) noE := by
      intro j d zs T hd hI
      have e0 : i + 1 + j = i + (j + 1) := by omega
      rw [e0] at hI ⊢
      exact hs (j + 1) d zs T hd hI
    cases b with
    | true =>
      obtain ⟨y, S2, ey, h4⟩ := (h2 rfl).ok
      obtain ⟨zs, T, el, h5⟩ := loopC_inv ds I (i + 1) (ys ++ [y]) S2 h4 hk hs'
      rw [eb]; dsimp only; rw [ey]; dsimp only; rw [el]
      refine ⟨y :: zs, T, rfl, ?_⟩
      rw [List.length_cons, show i + (ds.length + 1) = i + 1 + ds.length by omega]
      simpa using h5
    | false =>
      obtain ⟨zs, T, el, h5⟩ := loopC_inv ds I (i + 1) ys S1 (h3 rfl) hk hs'
      rw [eb]; dsimp only; rw [el]
      refine ⟨zs, T, rfl, ?_⟩
      rw [List.length_cons, show i + (ds.length + 1) = i + 1 + ds.length by omega]
      exact h5
theorem ints_toP {n : Nat} {S : Sto} : ∀ xs : List Int, allSome (toP (n + 1) S) (xs.map D.int) = some (xs.map PyData.int)
  | [] => rfl
  | x :: xs => by rw [List.map_cons, allSome, ints_toP xs]; rfl
theorem ints_lay : ∀ xs : List Int, PyData.canLayAll0 (xs.map PyData.int) = true ∧ PyData.depthAll (xs.map PyData.int) ≤ 1
  | [] => ⟨rfl, by simp [PyData.depthAll]⟩
  | x :: xs => by
    obtain ⟨h1, h2⟩ := ints_lay xs
    exact ⟨by simp [PyData.canLayAll0, h1, PyData.canLay0], by simp only [List.map_cons, PyData.depthAll, PyData.depth]; omega⟩
theorem ints_eqv : ∀ xs ys : List Int, PyData.eqvAll (xs.map PyData.int) (ys.map PyData.int) = decide (xs = ys)
  | [], [] => by simp [PyData.eqvAll]
  | [], y :: ys => by simp [PyData.eqvAll]
  | x :: xs, [] => by simp [PyData.eqvAll]
  | x :: xs, y :: ys => by
    rw [List.map_cons, List.map_cons, PyData.eqvAll, ints_eqv xs ys]
    by_cases h : x = y <;> by_cases k : xs = ys <;> simp [PyData.eqv, h, k]
theorem eqX_ints {S : Sto} {l m : Nat} {xs ys : List Int} (h1 : S[l]? = some (.lst (xs.map D.int))) (h2 : S[m]? = some (.lst (ys.map D.int))) : eqX (.ref l) (.ref m) S = some (decide (xs = ys)) := by
  have e1 : toP 30 S (.ref l) = some (.list (xs.map PyData.int)) := by unfold toP; dsimp only; rw [h1]; dsimp only; rw [ints_toP]; rfl
  have e2 : toP 30 S (.ref m) = some (.list (ys.map PyData.int)) := by unfold toP; dsimp only; rw [h2]; dsimp only; rw [ints_toP]; rfl
  have sh : ∀ zs : List Int, SeqAt.shaped (.list (zs.map PyData.int)) = true := fun zs => by
    have := ints_lay zs
    unfold SeqAt.shaped
    rw [PyData.canLay0, this.1, Bool.true_and, decide_eq_true_eq, PyData.depth]
    omega
  unfold eqX
  dsimp only
  rw [h1]
  dsimp only
  unfold eqD
  dsimp only [D.sc]
  rw [e1, e2]
  dsimp only
  rw [if_pos ⟨sh xs, sh ys⟩, PyData.eqv, ints_eqv]
theorem ints_sc : ∀ xs : List Int, allSome D.sc (xs.map D.int) = some (xs.map V.int)
  | [] => rfl
  | x :: xs => by rw [List.map_cons, allSome, ints_sc xs]; rfl
end Pu
namespace Pu
open L2 PySem PySem.Spec PyProof.Rows Lb
section
variable {S : Sto} {e : Env} {Q : D → Sto → Prop} {E : ErP} {fa fb fo fi : Ex} {F : List D → Sto → Res D} {C : Nat} {N : NxP} {RR : RtP} {BB CC : NxP} {X : XxP} {ds : List D} {l m : Nat}
theorem rs_prop (h : Rs (fo e S) (fun o S1 => isIns C o S1 = true ∧ Rs (F [o] S1) Q noE) E) : Rs (eProp C F fo e S) Q E :=
  rs_bind (h.mono (fun o S1 ⟨h1, h2⟩ => by
    obtain ⟨d, S2, e1, h3⟩ := h2.ok
    rw [if_pos h1, e1]
    exact rs_ok h3) fun _ _ _ z => z)
theorem dic_c {kvs : List (Key × D)} {B : Prop} (h : S[l]? = some (.dic kvs)) (q : B) : isDic (.ref l) S = true ∧ B := ⟨by unfold isDic; dsimp only; rw [h], q⟩
theorem ot_cutT (h : Rs (fa e S) (fun d S1 => Rs (fo e S1) (fun o S2 => Rs (fi e S2) (fun i S3 => ∃ l m j xs, o = .ref l ∧ d = .ref m ∧ i = .int j ∧ S3[l]? = some (.lst xs) ∧ S3[m]? = some (.lst []) ∧ (l ≠ m ∧ 0 ≤ j ∧ j ≤ xs.length) ∧ ∀ S4, Fr [l] S3 S4 → S4[l]? = some (.lst (xs.take j.toNat)) → S4.length = S3.length → N e S4) (er1 X e)) (er1 X e)) (er1 X e)) : Ot (sCutT fo fi fa e S) N RR BB CC X :=
  ot_st (h.mono (fun d S1 h => ot_st (h.mono (fun o S2 h => ot_st (h.mono (fun i S3 ⟨l, m, j, xs, e1, e2, e3, h1, h2, h3, q⟩ => by
    subst e1; subst e2; subst e3
    dsimp only
    rw [h1, h2]
    dsimp only
    rw [if_pos h3]
    with_unfolding_all exact q _ Fr.set (at_set h1) (by simp)) fun _ _ _ z => z)) fun _ _ _ z => z)) fun _ _ _ z => z)
theorem rs_mulL {k : Int} (h : S[l]? = some (.lst ds)) (h1 : -100000 ≤ k ∧ k ≤ 100000) (h2 : ds.length * k.toNat ≤ 100000) (q : ∀ S', Fr [] S S' → S'[S.length]? = some (.lst (List.replicate k.toNat ds).flatten) → S'.length = S.length + 1 → Q (.ref S.length) S') : Rs (dMul (.ref l) (.int k) S) Q E := by
  unfold dMul; dsimp only; rw [h]; dsimp only; rw [if_pos ⟨h1, h2⟩]
  exact rs_ok (q _ Fr.push at_push (by simp))
theorem rep_one {n : Nat} {d : D} : (List.replicate n [d]).flatten = List.replicate n d := by
  induction n with
  | zero => rfl
  | succ n ih => rw [List.replicate_succ, List.flatten_cons, ih, List.replicate_succ]; rfl
/-- xs[a:b:c] of a list at l -/
theorem rs_sl3 {p q' r : Env → Sto → Res (Option Int)} (h : Rs (fa e S) (fun x S1 => Rs (p e S1) (fun lo S2 => Rs (q' e S2) (fun hi S3 => Rs (r e S3) (fun st S4 => ∃ l ds, x = .ref l ∧ st ≠ some 0 ∧ S4[l]? = some (.lst ds) ∧ ∀ S', Fr [] S4 S' → S'[S4.length]? = some (.lst (pickD ds lo hi st)) → S'.length = S4.length + 1 → Q (.ref S4.length) S') E) E) E) E) : Rs (eSl3 fa p q' r e S) Q E :=
  rs_bind (h.mono (fun x S1 h => rs_bind (h.mono (fun lo S2 h => rs_bind (h.mono (fun hi S3 h => rs_bind (h.mono (fun st S4 ⟨l, ds, e1, h1, h2, k⟩ => by
    subst e1
    rw [if_neg h1]
    dsimp only
    have e2 : (D.ref l).seq S4 = some ds := by unfold D.seq; dsimp only; rw [h2]
    rw [e2]
    exact rs_ok (k _ Fr.push at_push (by simp))) fun _ _ _ z => z)) fun _ _ _ z => z)) fun _ _ _ z => z)) fun _ _ _ z => z)
end
end Pu
namespace Pu
open L2 PySem PySem.Spec PyProof.Rows Lb
section
variable {S : Sto} {e : Env} {Q : D → Sto → Prop} {E : ErP} {fa fb fo fi : Ex} {F : List D → Sto → Res D} {C : Nat} {N : NxP} {RR : RtP} {BB CC : NxP} {X : XxP} {ds : List D} {l m : Nat} {g : Sx} {x y : D}
theorem rs_mPick {m : Str} {Fs : List (List D → Sto → Res D)} (h : Rs (fo e S) (fun o S1 => isObj C m o S1 = true ∧ Rs (fi e S1) (fun i S2 => ∃ (k : Nat) (F : List D → Sto → Res D), i = .int k ∧ Fs[k]? = some F ∧ Rs (F [o] S2) Q E) E) E) : Rs (eMPick C m Fs fo fi e S) Q E :=
  rs_bind (h.mono (fun o S1 ⟨h1, h2⟩ => by
    rw [if_pos h1]
    refine rs_bind (h2.mono (fun i S2 ⟨k, F, e1, h3, h4⟩ => ?_) fun _ _ _ z => z)
    subst e1
    dsimp only
    rw [if_pos (by omega), show ((k : Int)).toNat = k by omega, h3]
    exact h4) fun _ _ _ z => z)
theorem ot_retFinX (h : Rs (fa e S) (fun d S1 => Ot (g e S1) (fun _ S2 => RR d S2) (fun _ _ => False) (fun _ _ => False) (fun _ _ => False) (fun _ _ _ _ => False)) (fun Z x S1 => Ot (g e S1) (fun e2 S2 => X Z x e2 S2) (fun _ _ => False) (fun _ _ => False) (fun _ _ => False) (fun _ _ _ _ => False))) : Ot (sRetFinX fa g e S) N RR BB CC X := by
  unfold sRetFinX
  generalize fa e S = r at h
  cases r with
  | ok d S1 =>
    unfold Rs at h
    dsimp only at h ⊢
    generalize g e S1 = o at h
    cases o <;> (unfold Ot at h ⊢; first | exact h | exact h.elim)
  | er Z x S1 =>
    unfold Rs at h
    dsimp only at h ⊢
    generalize g e S1 = o at h
    cases o <;> (unfold Ot at h ⊢; first | exact h | exact h.elim)
  | no => unfold Rs at h; exact h.elim
theorem rs_own1 (hx : isIns C x S = true) (hy : okR C y S = true) (h : Rs (F [x, y] S) Q noE) : Rs (dOwn1 C F x y S) Q E := by
  obtain ⟨d, S', e1, h2⟩ := h.ok
  unfold dOwn1
  rw [if_pos ⟨hx, hy⟩, e1]
  exact rs_ok h2
end
end Pu
namespace Pu
open L2 PySem PySem.Spec PyProof.Rows Lb
/-- the first index and the number of the cells of a slice -/
def slB (f l : Option Int) (k c : Int) : Int := (sliceBounds f l (some k) c.toNat).1
def slE (f l : Option Int) (k c : Int) : Int := (sliceBounds f l (some k) c.toNat).2.1
def slN (f l : Option Int) (k c : Int) : Int := if k > 0 then (if slB f l k c < slE f l k c then (slE f l k c - slB f l k c + k - 1) / k else 0) else (if slB f l k c > slE f l k c then (slB f l k c - slE f l k c - k - 1) / (-k) else 0)
def ends (c i : Int) : Int := if i < 0 then c + i else i
def lims (a b c : Int) : Int := if a < b then b else if c < a then c else a
theorem slB_pos {f l : Option Int} {k c : Int} (h : 0 < k) (c0 : 0 ≤ c) : slB f l k c = match f with | none => 0 | some i => lims (ends c i) 0 c := by
  unfold slB sliceBounds
  have e : ((c.toNat : Nat) : Int) = c := by omega
  cases f with
  | none => simp [h]
  | some i =>
    simp only [Option.getD_some, e, gt_iff_lt, if_pos h]
    unfold lims ends
    split <;> split <;> (try split) <;> omega
theorem slE_pos {f l : Option Int} {k c : Int} (h : 0 < k) (c0 : 0 ≤ c) : slE f l k c = match l with | none => c | some i => lims (ends c i) 0 c := by
  unfold slE sliceBounds
  have e : ((c.toNat : Nat) : Int) = c := by omega
  cases l with
  | none => simp [h, e]
  | some i =>
    simp only [Option.getD_some, e, gt_iff_lt, if_pos h]
    unfold lims ends
    split <;> split <;> (try split) <;> omega
theorem slB_neg {f l : Option Int} {k c : Int} (h : ¬ 0 < k) (c0 : 0 ≤ c) : slB f l k c = match f with | none => c - 1 | some i => lims (ends c i) (-1) (c - 1) := by
  unfold slB sliceBounds
  have e : ((c.toNat : Nat) : Int) = c := by omega
  cases f with
  | none => simp [h, e]
  | some i =>
    simp only [Option.getD_some, e, gt_iff_lt, if_neg h]
    unfold lims ends
    split <;> split <;> (try split) <;> omega
theorem slE_neg {f l : Option Int} {k c : Int} (h : ¬ 0 < k) (c0 : 0 ≤ c) : slE f l k c = match l with | none => -1 | some i => lims (ends c i) (-1) (c - 1) := by
  unfold slE sliceBounds
  have e : ((c.toNat : Nat) : Int) = c := by omega
  cases l with
  | none => simp [h]
  | some i =>
    simp only [Option.getD_some, e, gt_iff_lt, if_neg h]
    unfold lims ends
    split <;> split <;> (try split) <;> omega
theorem lims_in {a b c : Int} (h : b ≤ c) : b ≤ lims a b c ∧ lims a b c ≤ c := by
  unfold lims; split <;> (try split) <;> omega
theorem slB_in {f l : Option Int} {k c : Int} (c0 : 0 ≤ c) : -1 ≤ slB f l k c ∧ slB f l k c ≤ c := by
  by_cases h : 0 < k
  · rw [slB_pos h c0]
    cases f with
    | none => dsimp only; omega
    | some i => have := lims_in (a := ends c i) (b := 0) (c := c) c0; dsimp only; omega
  · rw [slB_neg h c0]
    cases f with
    | none => dsimp only; omega
    | some i => have := lims_in (a := ends c i) (b := -1) (c := c - 1) (by omega); dsimp only; omega
theorem slE_in {f l : Option Int} {k c : Int} (c0 : 0 ≤ c) : -1 ≤ slE f l k c ∧ slE f l k c ≤ c := by
  by_cases h : 0 < k
  · rw [slE_pos h c0]
    cases l with
    | none => dsimp only; omega
    | some i => have := lims_in (a := ends c i) (b := 0) (c := c) c0; dsimp only; omega
  · rw [slE_neg h c0]
    cases l with
    | none => dsimp only; omega
    | some i => have := lims_in (a := ends c i) (b := -1) (c := c - 1) (by omega); dsimp only; omega
theorem ceil_eq {s k : Int} (hk : 0 < k) : (s + k - 1) / k = (s - 1) / k + 1 := by
  have := Int.add_mul_ediv_right (s - 1) 1 (show k ≠ 0 by omega)
  rw [Int.one_mul] at this
  rw [← this]; congr 1; omega
theorem slN_pos {f l : Option Int} {k c : Int} (h : 0 < k) : slN f l k c = if 0 < slE f l k c - slB f l k c then (slE f l k c - slB f l k c - 1) / k + 1 else 0 := by
  unfold slN
  rw [if_pos h]
  by_cases e : slB f l k c < slE f l k c
  · rw [if_pos e, if_pos (by omega), ← ceil_eq h]
  · rw [if_neg e, if_neg (by omega)]
theorem slN_neg {f l : Option Int} {k c : Int} (h : k < 0) : slN f l k c = if 0 < slB f l k c - slE f l k c then (slB f l k c - slE f l k c - 1) / (-k) + 1 else 0 := by
  unfold slN
  rw [if_neg (by omega)]
  by_cases e : slB f l k c > slE f l k c
  · rw [if_pos e, if_pos (by omega), ← ceil_eq (by omega)]
    congr 1
  · rw [if_neg e, if_neg (by omega)]
theorem slN_nn {f l : Option Int} {k c : Int} (hk : k ≠ 0) : 0 ≤ slN f l k c := by
  by_cases h : 0 < k
  · rw [slN_pos h]; split
    · have := Int.ediv_nonneg (show 0 ≤ slE f l k c - slB f l k c - 1 by omega) (show 0 ≤ k by omega); omega
    · omega
  · rw [slN_neg (by omega)]; split
    · have := Int.ediv_nonneg (show 0 ≤ slB f l k c - slE f l k c - 1 by omega) (show 0 ≤ -k by omega); omega
    · omega
theorem natAbs_mul_ge {t k : Int} (hk : k ≠ 0) : t.natAbs ≤ (t * k).natAbs := by
  rw [Int.natAbs_mul]
  exact Nat.le_mul_of_pos_right _ (by omega)
theorem slN_le {f l : Option Int} {k c : Int} (hk : k ≠ 0) (c0 : 0 ≤ c) : slN f l k c ≤ c := by
  have h := sliceRange_length_le (slB f l k c) (slE f l k c) k c.toNat (fun h => by
    rw [slB_pos h c0, slE_pos h c0]
    constructor
    · cases f with
      | none => exact Int.le_refl _
      | some i => exact (lims_in c0).1
    · cases l with
      | none => dsimp only; omega
      | some i => have := (lims_in (a := ends c i) c0).2; dsimp only; omega) (fun h => by
    rw [slB_neg h c0, slE_neg h c0]
    constructor
    · cases f with
      | none => dsimp only; omega
      | some i => have := (lims_in (a := ends c i) (b := -1) (c := c - 1) (by omega)).2; dsimp only; omega
    · cases l with
      | none => exact Int.le_refl _
      | some i => exact (lims_in (a := ends c i) (b := -1) (c := c - 1) (by omega)).1)
  unfold sliceRange at h
  simp only [List.length_map, List.length_range] at h
  change (slN f l k c).toNat ≤ c.toNat at h
  have := slN_nn (f := f) (l := l) (c := c) hk
  omega
theorem filterMap_all {α β : Type} {h : α → Option β} {g : α → β} : ∀ {l : List α}, (∀ x ∈ l, h x = some (g x)) → l.filterMap h = l.map g
  | [], _ => rfl
  | x :: l, e => by
    rw [List.filterMap_cons, e x List.mem_cons_self, List.map_cons, filterMap_all fun y hy => e y (List.mem_cons_of_mem _ hy)]
theorem slice_in {f l : Option Int} {k c j : Int} (hk : k ≠ 0) (c0 : 0 ≤ c) (j0 : 0 ≤ j) (j1 : j < slN f l k c) : 0 ≤ slB f l k c + k * j ∧ slB f l k c + k * j < c := by
  by_cases h : 0 < k
  · rw [slN_pos h] at j1
    have hb : 0 ≤ slB f l k c := by
      rw [slB_pos h c0]
      cases f with
      | none => exact Int.le_refl _
      | some i => exact (lims_in c0).1
    have he := (slE_in (f := f) (l := l) (k := k) c0).2
    split at j1
    · have d := Int.mul_ediv_add_emod (slE f l k c - slB f l k c - 1) k
      have d2 := Int.emod_nonneg (slE f l k c - slB f l k c - 1) hk
      have m0 := Int.mul_nonneg (show 0 ≤ k by omega) j0
      have m1 : k * j ≤ k * ((slE f l k c - slB f l k c - 1) / k) := Int.mul_le_mul_of_nonneg_left (by omega) (by omega)
      omega
    · omega
  · rw [slN_neg (by omega)] at j1
    have hb : slB f l k c ≤ c - 1 := by
      rw [slB_neg h c0]
      cases f with
      | none => exact Int.le_refl _
      | some i => exact (lims_in (by omega)).2
    have he : -1 ≤ slE f l k c := (slE_in (f := f) (l := l) (k := k) c0).1
    split at j1
    · have d := Int.mul_ediv_add_emod (slB f l k c - slE f l k c - 1) (-k)
      have d2 := Int.emod_nonneg (slB f l k c - slE f l k c - 1) (show -k ≠ 0 by omega)
      have m0 := Int.mul_nonneg (show 0 ≤ -k by omega) j0
      have m1 : -k * j ≤ -k * ((slB f l k c - slE f l k c - 1) / -k) := Int.mul_le_mul_of_nonneg_left (by omega) (by omega)
      simp only [Int.neg_mul] at m0 m1 d
      omega
    · omega
/-- xs[f:l:k] of a list that is told place by place -/
theorem pick_range {α : Type} {g : Nat → D} {n : Nat} {f l : Option Int} {k : Int} (hk : k ≠ 0) : pickD ((List.range n).map g) f l (some k) = (List.range (slN f l k n).toNat).map fun (j : Nat) => g (slB f l k n + k * (j : Int)).toNat := by
  have hl : ((List.range n).map g).length = n := by simp only [List.length_map, List.length_range]
  unfold pickD
  rw [hl]
  have e3 : (sliceBounds f l (some k) n).2.2 = k := rfl
  rw [e3]
  unfold sliceRange
  have en : ((n : Int)).toNat = n := by omega
  have e4 : (sliceBounds f l (some k) n).1 = slB f l k n := by unfold slB; rw [en]
  have e5 : (sliceBounds f l (some k) n).2.1 = slE f l k n := by unfold slE; rw [en]
  rw [e4, e5]
  change List.filterMap _ ((List.range (slN f l k n).toNat).map fun (j : Nat) => (slB f l k n + k * (j : Int)).toNat) = _
  rw [List.filterMap_map]
  refine filterMap_all fun j hj => ?_
  have hj := List.mem_range.mp hj
  obtain ⟨h1, h2⟩ := slice_in (f := f) (l := l) (c := (n : Int)) (j := (j : Int)) hk (by omega) (by omega) (by omega)
  show ((List.range n).map g)[(slB f l k n + k * (j : Int)).toNat]? = _
  rw [List.getElem?_map, List.getElem?_range (by omega)]
  rfl
end Pu
namespace LbW
open PySem PySem.Spec PyProof.Rows L2 Lb Pu
local macro_rules | `(tactic| walk_at "pc") => `(tactic| first | (refine if_y rfl ?_) | (refine if_ny rfl ?_) | (refine if_nn (by decide) ?_) | (refine if_y (by first | omega | (simp only [List.length_cons, List.length_nil]; omega)) ?_) | (refine if_n (by first | omega | (simp only [List.length_cons, List.length_nil]; omega)) ?_) | (refine if_ny (by first | omega | (simp only [List.length_cons, List.length_nil]; omega)) ?_) | (refine if_nn (by first | omega | (simp only [List.length_cons, List.length_nil]; omega)) ?_))
local macro_rules | `(tactic| walk_at "pc") => `(tactic| (refine if_n (by decide) ?_))
local macro_rules | `(tactic| walk_at "pc") => `(tactic| ((with_reducible apply rs_nin_f); exact rfl))
local macro_rules | `(tactic| walk_at "pc") => `(tactic| ((with_reducible apply rs_in_f); exact rfl))
local macro_rules | `(tactic| walk_at "pc") => `(tactic| ((with_reducible apply rs_nin_t); exact rfl))
local macro_rules | `(tactic| walk_at "pc") => `(tactic| ((with_reducible apply rs_in_t); exact rfl))
local macro_rules | `(tactic| walk_at "pc") => `(tactic| (with_reducible refine ot_seq ?_))
local macro_rules | `(tactic| walk_at "pc") => `(tactic| first | ((with_reducible apply rs_isi_f); exact rfl; exact rfl) | ((with_reducible apply rs_isi_n); exact rfl) | ((with_reducible apply rs_modP); omega) | ((with_reducible apply rs_fdivP); omega; omega) | ((with_reducible apply rs_mulP); omega; omega; omega; omega) | ((with_reducible apply rs_powI); decide))
local macro_rules | `(tactic| walk_at "pc") => `(tactic| first | ((with_reducible apply ot_aug); exact rfl) | ((with_reducible apply rs_lenL); assumption) | ((with_reducible apply rs_lenS); (first | assumption | exact Nat.le_of_ble_eq_true rfl)) | ((with_reducible apply rs_tupL); assumption) | ((with_reducible apply rs_fldD); assumption; decide; exact rfl) | ((with_reducible apply rs_isi_t); exact rfl; exact rfl))
local macro_rules | `(tactic| walk_at "pc") => `(tactic| first | (with_reducible refine ot_bk ?_) | (with_reducible refine ot_ct ?_) | (with_reducible refine ot_retN ?_) | (with_reducible refine ot_fldaug ?_))
local macro_rules | `(tactic| walk_at "pc") => `(tactic| first | (with_reducible refine ot_fld ?_) | (with_reducible refine ot_for ?_) | (with_reducible refine ot_asg ?_) | (with_reducible refine ot_par ?_) | (with_reducible refine ot_raiseX ?_) | (with_reducible refine ot_raiseY ?_))
local macro_rules | `(tactic| walk_at "pc") => `(tactic| first | (with_reducible refine rs_min2 ?_) | (with_reducible refine rs_max2 ?_) | (with_reducible refine rs_tupT ?_) | (with_reducible refine rs_ok ?_) | (with_reducible refine ot_drop ?_) | (with_reducible refine ot_sub ?_))
local macro_rules | `(tactic| walk_at "pc") => `(tactic| first | (with_reducible refine rs_lenT ?_) | (with_reducible refine rs_lenF ?_) | (with_reducible refine rs_intI ?_) | (with_reducible refine rs_intB ?_) | (with_reducible refine rs_boolB ?_) | (with_reducible refine rs_absI ?_))
local macro_rules | `(tactic| walk_at "pc") => `(tactic| first | (with_reducible refine rs_leI ?_) | (with_reducible refine rs_gtI ?_) | (with_reducible refine rs_geI ?_) | (with_reducible refine rs_eqI ?_) | (with_reducible refine rs_neI ?_) | (with_reducible refine rs_neS ?_))
local macro_rules | `(tactic| walk_at "pc") => `(tactic| first | (with_reducible refine rs_addI ?_) | (with_reducible refine rs_addII ?_) | (with_reducible refine rs_subII ?_) | (with_reducible refine rs_subI ?_) | (with_reducible refine rs_negI ?_) | (with_reducible refine rs_ltI ?_))
local macro_rules | `(tactic| walk_at "pc") => `(tactic| first | (with_reducible refine rs_get2 ?_) | (with_reducible refine rs_pN ?_) | (with_reducible refine rs_pE ?_) | (with_reducible refine rs_itR1 ?_) | (with_reducible refine rs_itR2 ?_) | (with_reducible refine rs_itSeq ?_))
local macro_rules | `(tactic| walk_at "pc") => `(tactic| first | (with_reducible refine rs_andE ?_) | (with_reducible refine rs_orE ?_) | (with_reducible refine rs_if ?_) | (with_reducible refine rs_chain ?_) | (with_reducible refine rs_sl ?_) | (with_reducible refine rs_get1 ?_))
local macro_rules | `(tactic| walk_at "pc") => `(tactic| first | (with_reducible refine rs_m ?_) | (with_reducible refine rs_bm ?_) | (with_reducible refine rs_not ?_) | (with_reducible refine rs_notE ?_) | (with_reducible refine rs_and ?_) | (with_reducible refine rs_or ?_))
local macro_rules | `(tactic| walk_at "pc") => `(tactic| first | ((with_reducible apply rs_isN_t); exact rfl) | ((with_reducible apply rs_isnt_t); exact rfl) | ((with_reducible apply rs_isN_f); exact rfl) | ((with_reducible apply rs_isnt_f); exact rfl) | (with_reducible refine rs_isN ?_) | (with_reducible refine rs_isntN ?_))
local macro_rules | `(tactic| walk_at "pc") => `(tactic| first | ((with_reducible apply rs_mkT); exact Nat.le_of_ble_eq_true rfl) | ((with_reducible apply len_c); exact rfl) | ((with_reducible apply len_c1); exact rfl))
local macro_rules | `(tactic| walk_at "pc") => `(tactic| first | (with_reducible refine ot_set ?_) | (with_reducible refine ot_ret ?_) | (with_reducible refine rs_f ?_) | (with_reducible refine rs_u ?_))
local macro_rules | `(tactic| walk_at "pc") => `(tactic| first | (with_reducible refine ot_seq_set ?_) | (with_reducible refine ot_seq_sub ?_) | (with_reducible refine ot_seq_drop ?_) | (with_reducible refine ot_seq_fld ?_) | (with_reducible refine ot_seq_asg ?_) | (with_reducible refine ot_seq_par ?_) | (with_reducible refine ot_seq_aug ?_) | (with_reducible refine ot_seq_fldaug ?_) | (with_reducible refine ot_seq_next ?_))
local macro_rules | `(tactic| walk_at "pc") => `(tactic| first | (with_reducible refine if_t ?_) | (with_reducible refine if_f ?_) | (with_reducible refine if_nt ?_) | (with_reducible refine if_nf ?_))
local macro_rules | `(tactic| walk_at "pc") => `(tactic| first | ((with_reducible apply rs_ixL); (first | assumption); exact rfl) | ((with_reducible apply rs_ixT); exact rfl) | ((with_reducible apply rs_ixF); exact rfl))
local macro_rules | `(tactic| walk_at "pc") => `(tactic| (with_reducible refine rs_eqS ?_))
local macro_rules | `(tactic| walk_at "pc") => `(tactic| (with_reducible refine rs_k ?_))
local macro_rules | `(tactic| walk_at "pc") => `(tactic| (with_reducible refine ot_next ?_))
local macro_rules | `(tactic| walk_at "pc") => `(tactic| (with_reducible refine ot_if ?_))
local macro_rules | `(tactic| walk_at "pc") => `(tactic| (with_reducible refine rs_aN ?_))
local macro_rules | `(tactic| walk_at "pc") => `(tactic| (with_reducible refine rs_bE ?_))
local macro_rules | `(tactic| walk_at "pc") => `(tactic| (with_reducible refine rs_bl ?_))
local macro_rules | `(tactic| walk_at "pc") => `(tactic| (with_reducible refine rs_b ?_))
local macro_rules | `(tactic| walk_at "pc") => `(tactic| ((with_reducible apply rs_v); exact rfl))
local macro_rules | `(tactic| walk_at "pc") => `(tactic| (with_reducible refine rs_aC ?_))
local macro_rules | `(tactic| walk_at "pc") => `(tactic| (with_reducible refine rs_c ?_))
local macro_rules | `(tactic| walk_at "pv1") => `(tactic| first | ((with_reducible apply rs_isi_f); exact rfl; exact rfl) | ((with_reducible apply rs_isi_n); exact rfl) | ((with_reducible apply rs_modP); omega) | ((with_reducible apply rs_fdivP); omega; omega) | ((with_reducible apply rs_mulP); omega; omega; omega; omega) | ((with_reducible apply rs_powI); decide))
local macro_rules | `(tactic| walk_at "pv1") => `(tactic| first | ((with_reducible apply ot_aug); exact rfl) | ((with_reducible apply rs_lenL); assumption) | ((with_reducible apply rs_lenS); (first | assumption | exact Nat.le_of_ble_eq_true rfl)) | ((with_reducible apply rs_tupL); assumption) | ((with_reducible apply rs_fldD); assumption; decide; exact rfl) | ((with_reducible apply rs_isi_t); exact rfl; exact rfl))
local macro_rules | `(tactic| walk_at "pv1") => `(tactic| first | (with_reducible refine ot_bk ?_) | (with_reducible refine ot_ct ?_) | (with_reducible refine ot_retN ?_) | (with_reducible refine ot_fldaug ?_))
local macro_rules | `(tactic| walk_at "pv1") => `(tactic| first | (with_reducible refine ot_fld ?_) | (with_reducible refine ot_for ?_) | (with_reducible refine ot_asg ?_) | (with_reducible refine ot_par ?_) | (with_reducible refine ot_raiseX ?_) | (with_reducible refine ot_raiseY ?_))
local macro_rules | `(tactic| walk_at "pv1") => `(tactic| first | (with_reducible refine rs_min2 ?_) | (with_reducible refine rs_max2 ?_) | (with_reducible refine rs_tupT ?_) | (with_reducible refine rs_ok ?_) | (with_reducible refine ot_drop ?_) | (with_reducible refine ot_sub ?_))
local macro_rules | `(tactic| walk_at "pv1") => `(tactic| first | (with_reducible refine rs_lenT ?_) | (with_reducible refine rs_lenF ?_) | (with_reducible refine rs_intI ?_) | (with_reducible refine rs_intB ?_) | (with_reducible refine rs_boolB ?_) | (with_reducible refine rs_absI ?_))
local macro_rules | `(tactic| walk_at "pv1") => `(tactic| first | (with_reducible refine rs_leI ?_) | (with_reducible refine rs_gtI ?_) | (with_reducible refine rs_geI ?_) | (with_reducible refine rs_eqI ?_) | (with_reducible refine rs_neI ?_) | (with_reducible refine rs_neS ?_))
local macro_rules | `(tactic| walk_at "pv1") => `(tactic| first | (with_reducible refine rs_addI ?_) | (with_reducible refine rs_addII ?_) | (with_reducible refine rs_subII ?_) | (with_reducible refine rs_subI ?_) | (with_reducible refine rs_negI ?_) | (with_reducible refine rs_ltI ?_))
local macro_rules | `(tactic| walk_at "pv1") => `(tactic| first | (with_reducible refine rs_get2 ?_) | (with_reducible refine rs_pN ?_) | (with_reducible refine rs_pE ?_) | (with_reducible refine rs_itR1 ?_) | (with_reducible refine rs_itR2 ?_) | (with_reducible refine rs_itSeq ?_))
local macro_rules | `(tactic| walk_at "pv1") => `(tactic| first | (with_reducible refine rs_andE ?_) | (with_reducible refine rs_orE ?_) | (with_reducible refine rs_if ?_) | (with_reducible refine rs_chain ?_) | (with_reducible refine rs_sl ?_) | (with_reducible refine rs_get1 ?_))
local macro_rules | `(tactic| walk_at "pv1") => `(tactic| first | (with_reducible refine rs_m ?_) | (with_reducible refine rs_bm ?_) | (with_reducible refine rs_not ?_) | (with_reducible refine rs_notE ?_) | (with_reducible refine rs_and ?_) | (with_reducible refine rs_or ?_))
local macro_rules | `(tactic| walk_at "pv1") => `(tactic| first | ((with_reducible apply rs_isN_t); exact rfl) | ((with_reducible apply rs_isnt_t); exact rfl) | ((with_reducible apply rs_isN_f); exact rfl) | ((with_reducible apply rs_isnt_f); exact rfl) | (with_reducible refine rs_isN ?_) | (with_reducible refine rs_isntN ?_))
local macro_rules | `(tactic| walk_at "pv1") => `(tactic| first | ((with_reducible apply rs_mkT); exact Nat.le_of_ble_eq_true rfl) | ((with_reducible apply len_c); exact rfl) | ((with_reducible apply len_c1); exact rfl))
local macro_rules | `(tactic| walk_at "pv1") => `(tactic| first | (with_reducible refine ot_set ?_) | (with_reducible refine ot_ret ?_) | (with_reducible refine rs_f ?_) | (with_reducible refine rs_u ?_))
local macro_rules | `(tactic| walk_at "pv1") => `(tactic| first | (with_reducible refine ot_seq_set ?_) | (with_reducible refine ot_seq_sub ?_) | (with_reducible refine ot_seq_drop ?_) | (with_reducible refine ot_seq_fld ?_) | (with_reducible refine ot_seq_asg ?_) | (with_reducible refine ot_seq_par ?_) | (with_reducible refine ot_seq_aug ?_) | (with_reducible refine ot_seq_fldaug ?_) | (with_reducible refine ot_seq_next ?_))
local macro_rules | `(tactic| walk_at "pv1") => `(tactic| first | (with_reducible refine if_t ?_) | (with_reducible refine if_f ?_) | (with_reducible refine if_nt ?_) | (with_reducible refine if_nf ?_))
local macro_rules | `(tactic| walk_at "pv1") => `(tactic| first | ((with_reducible apply rs_ixL); (first | assumption); exact rfl) | ((with_reducible apply rs_ixT); exact rfl) | ((with_reducible apply rs_ixF); exact rfl))
local macro_rules | `(tactic| walk_at "pv1") => `(tactic| (with_reducible refine rs_eqS ?_))
local macro_rules | `(tactic| walk_at "pv1") => `(tactic| (with_reducible refine rs_k ?_))
local macro_rules | `(tactic| walk_at "pv1") => `(tactic| (with_reducible refine ot_next ?_))
local macro_rules | `(tactic| walk_at "pv1") => `(tactic| (with_reducible refine ot_if ?_))
local macro_rules | `(tactic| walk_at "pv1") => `(tactic| (with_reducible refine rs_aN ?_))
local macro_rules | `(tactic| walk_at "pv1") => `(tactic| (with_reducible refine rs_bE ?_))
local macro_rules | `(tactic| walk_at "pv1") => `(tactic| (with_reducible refine rs_bl ?_))
local macro_rules | `(tactic| walk_at "pv1") => `(tactic| (with_reducible refine rs_b ?_))
local macro_rules | `(tactic| walk_at "pv1") => `(tactic| ((with_reducible apply rs_v); exact rfl))
local macro_rules | `(tactic| walk_at "pv1") => `(tactic| (with_reducible refine rs_aC ?_))
local macro_rules | `(tactic| walk_at "pv1") => `(tactic| (with_reducible refine rs_c ?_))
local macro_rules | `(tactic| walk_at "pv") => `(tactic| repeat walk_at "pv1")
local macro_rules | `(tactic| walk_at "pvc") => `(tactic| repeat walk_at "pc")
local macro_rules | `(tactic| walk_at "pv1") => `(tactic| first | (with_reducible refine rs_ixOwnX ?_) | (with_reducible refine rs_lenOwnX ?_) | (with_reducible refine rs_inOwnX ?_) | (with_reducible refine ot_subOwnX ?_) | (with_reducible refine rs_mN ?_) | (with_reducible refine rs_m1 ?_) | (with_reducible refine rs_lstRg ?_) | (with_reducible refine rs_itRev ?_) | (with_reducible refine rs_itEnum ?_) | (with_reducible refine rs_band ?_))
local macro_rules | `(tactic| walk_at "pv1") => `(tactic| first | ((with_reducible apply obj_c); assumption; exact rfl) | ((with_reducible apply ins_c); assumption) | ((with_reducible apply lst_c); assumption))
def poolK (lc : Nat) (a b c d : Int) : List (Key × D) := [(.inr "cells", .ref lc), (.inr "at", .int a), (.inr "left", .int b), (.inr "turn", .int c), (.inr "seed", .int d)]
/-- at l: the pool over the list at lc, drawn from not more than n times -/
def PoA (S : Sto) (l lc : Nat) (n : Int) : Prop := ∃ (a b c d : Int) (cs : List Int), S[l]? = some (.dic (poolK lc a b c d)) ∧ S[lc]? = some (.lst (cs.map D.int)) ∧ cs.length ≤ 63 ∧ 0 ≤ b ∧ 0 ≤ c ∧ c ≤ n ∧ 0 ≤ d ∧ d < 2147483647
theorem PoA.fr {S S' : Sto} {l lc : Nat} {n : Int} {L : List Nat} (h : PoA S l lc n) (f : Fr L S S') (h1 : l ∉ L) (h2 : lc ∉ L) : PoA S' l lc n := let ⟨a, b, c, d, cs, k1, k2, k⟩ := h; ⟨a, b, c, d, cs, f.get h1 k1, f.get h2 k2, k⟩
theorem PoA.f0 {S S' : Sto} {l lc : Nat} {n : Int} (h : PoA S l lc n) (f : Fr [] S S') : PoA S' l lc n := h.fr f (by simp) (by simp)
theorem PoA.le {S : Sto} {l lc : Nat} {n m : Int} (h : PoA S l lc n) (k : n ≤ m) : PoA S l lc m := let ⟨a, b, c, d, cs, k1, k2, k3, k4, k5, k6, k7⟩ := h; ⟨a, b, c, d, cs, k1, k2, k3, k4, k5, by omega, k7⟩
theorem cutD_int {cs : List Int} {a : Int} : ∃ es : List Int, Pu.cutD (cs.map D.int) (some a) none = es.map D.int ∧ es.length ≤ cs.length := by
  unfold Pu.cutD
  refine ⟨(cs.drop _).take _, by rw [List.map_take, List.map_drop], by rw [List.length_take, List.length_drop]; omega⟩
theorem draw_ok {S : Sto} {l lc : Nat} {n m : Int} (h : PoA S l lc n) (hn : n < 10000) (hm : 0 < m) (hm2 : m < 10 ^ 50) : Rs (F__law_draw [.ref l, .int m] S) (fun d S' => ∃ r, d = .int r ∧ 0 ≤ r ∧ r < m ∧ PoA S' l lc (n + 1) ∧ Fr [l] S S') noE := by
  obtain ⟨a, b, c, d, cs, h1, h2, h3, h4, h5, h6, h7, h8⟩ := h
  have hlc : l ≠ lc := by rintro rfl; rw [h1] at h2; cases h2
  refine rs_fn ?_
  unfold G__law_draw
  walk_at "pv"
  refine rs_ixK h1 rfl rfl ?_
  walk_at "pv"
  refine ex_setK h1 rfl (by simp [poolK]) fun S1 f1 g1 l1 => ?_
  replace g1 : S1[l]? = some (.dic (poolK lc a b (c + 1) d)) := g1
  have k1 : S1[lc]? = some (.lst (cs.map D.int)) := f1.get (by simp; omega) h2
  refine ot_seq ?_
  walk_at "pv"
  refine rs_ixK g1 rfl rfl ?_
  walk_at "pv"
  refine if_d (fun hb => ?_) (fun hb => ?_)
  · walk_at "pv"
    refine rs_ixK g1 rfl rfl ?_
    walk_at "pv"
    refine rs_ixK g1 rfl rfl ?_
    walk_at "pv"
    refine ex_setK g1 rfl (by simp [poolK]) fun S2 f2 g2 l2 => ?_
    replace g2 : S2[l]? = some (.dic (poolK lc a (b / m) (c + 1) d)) := g2
    walk_at "pv"
    exact ⟨_, rfl, Int.emod_nonneg _ (by omega), Int.emod_lt_of_pos _ hm, ⟨_, _, _, _, cs, g2, f2.get (by simp; omega) k1, h3, Int.ediv_nonneg h4 (by omega), by omega, by omega, h7, h8⟩, f1.trans f2⟩
  · walk_at "pv"
    refine rs_ixK g1 rfl rfl ?_
    walk_at "pv"
    refine rs_ixK g1 rfl rfl ?_
    walk_at "pv"
    refine .inl ⟨_, rfl, ?_⟩
    walk_at "pv"
    obtain ⟨es, e1, e2⟩ := cutD_int (cs := cs) (a := a)
    refine rs_cutL k1 fun S2 f2 g2 l2 => ?_
    rw [e1] at g2
    walk_at "pv"
    refine rs_mkL fun S3 f3 g3 l3 => ?_
    walk_at "pv"
    refine rs_addL (f3.g0 g2) g3 (by simp; omega) fun S4 f4 g4 l4 => ?_
    obtain ⟨v, hv⟩ : ∃ v : Int, (es.map D.int ++ [.int 0])[0]? = some (D.int v) := by
      cases es with
      | nil => exact ⟨0, rfl⟩
      | cons x xs => exact ⟨x, rfl⟩
    walk_at "pv"
    refine rs_ixL g4 (atN (n := 0) rfl hv) ?_
    have F4 : Fr [l] S1 S4 := ((f2.trans f3).trans f4).nil
    have F0 : Fr [] S1 S4 := (f2.trans f3).trans f4
    have g5 := F0.g0 g1
    have k5 := F0.g0 k1
    walk_at "pv"
    refine rs_ixK g5 rfl rfl ?_
    walk_at "pv"
    refine ex_setK g5 rfl (by simp [poolK]) fun S5 f5 g6 l5 => ?_
    replace g6 : S5[l]? = some (.dic (poolK lc (a + 1) b (c + 1) d)) := g6
    have k6 : S5[lc]? = some (.lst (cs.map D.int)) := f5.get (by simp; omega) k5
    refine ot_seq ?_
    walk_at "pv"
    refine if_d (fun hb => ?_) (fun hb => ?_)
    · have hv0 : 0 ≤ v := Int.le_trans (by decide) hb
      walk_at "pv"
      refine ex_setK g6 rfl (by simp [poolK]) fun S6 f6 g7 l6 => ?_
      replace g7 : S6[l]? = some (.dic (poolK lc (a + 1) (v / m) (c + 1) d)) := g7
      walk_at "pv"
      exact ⟨_, rfl, Int.emod_nonneg _ (by omega), Int.emod_lt_of_pos _ hm, ⟨_, _, _, _, cs, g7, f6.get (by simp; omega) k6, h3, Int.ediv_nonneg hv0 (by omega), by omega, by omega, h7, h8⟩, ((f1.trans F4).trans f5).trans f6⟩
    · walk_at "pv"
      refine rs_ixK g6 rfl rfl ?_
      walk_at "pv"
      refine rs_ixK g6 rfl rfl ?_
      walk_at "pv"
      refine ex_setK g6 rfl (by simp [poolK]) fun S6 f6 g7 l6 => ?_
      replace g7 : S6[l]? = some (.dic (poolK lc (a + 1) b (c + 1) _)) := g7
      walk_at "pv"
      refine ⟨_, rfl, Int.emod_nonneg _ (by omega), Int.emod_lt_of_pos _ hm, ⟨_, _, _, _, cs, g7, f6.get (by simp; omega) k6, h3, h4, by omega, by omega, ?_, ?_⟩, ((f1.trans F4).trans f5).trans f6⟩ <;> omega
theorem dw {S : Sto} {l lc : Nat} {n m : Int} {Q : D → Sto → Prop} {E : ErP} (h : PoA S l lc n) (q : ∀ r S', 0 ≤ r → r < m → PoA S' l lc (n + 1) → Fr [l] S S' → Q (.int r) S') (hn : n < 10000 := by omega) (hm : 0 < m := by omega) (hm2 : m < 10 ^ 50 := by omega) : Rs (F__law_draw [.ref l, .int m] S) Q E :=
  (draw_ok h hn hm hm2).to fun d S' ⟨r, e, h1, h2, h3, h4⟩ => by subst e; exact q r S' h1 h2 h3 h4
section
variable {S : Sto} {Q : D → Sto → Prop} {E : ErP}
theorem isint_nn (i : Int) (q : Q (.bl true) S) : Rs (F_is_integer [.int i, .non, .non] S) Q E := by
  refine rs_fn ?_
  unfold G_is_integer
  refine ot_seq ?_
  walk_at "pvc"
  exact q
theorem isint_ln (a i : Int) (q : Q (.bl (decide (a ≤ i))) S) : Rs (F_is_integer [.int i, .int a, .non] S) Q E := by
  refine rs_fn ?_
  unfold G_is_integer
  refine ot_seq ?_
  walk_at "pvc"
  refine if_d (fun h => ?_) (fun h => ?_)
  · walk_at "pvc"
    rw [decide_eq_false (show ¬ a ≤ i by omega)] at q; exact q
  · walk_at "pvc"
    rw [decide_eq_true (show a ≤ i by omega)] at q
    exact q
theorem isint_lh (a b i : Int) (q : Q (.bl (decide (a ≤ i ∧ i ≤ b))) S) : Rs (F_is_integer [.int i, .int a, .int b] S) Q E := by
  refine rs_fn ?_
  unfold G_is_integer
  refine ot_seq ?_
  walk_at "pvc"
  refine if_d (fun h => ?_) (fun h => ?_)
  · walk_at "pvc"
    rw [decide_eq_false (show ¬ (a ≤ i ∧ i ≤ b) by omega)] at q; exact q
  · walk_at "pvc"
    have e : decide (a ≤ i ∧ i ≤ b) = decide (i ≤ b) := by
      by_cases z : i ≤ b
      · rw [decide_eq_true z, decide_eq_true ⟨by omega, z⟩]
      · rw [decide_eq_false z, decide_eq_false (fun w => z w.2)]
    rw [e] at q
    exact q
end
/-- what is no integer -/
def noI : D → Bool
  | .non => true
  | .bl _ => true
  | .str _ => true
  | _ => false
theorem isint_n {S : Sto} {Q : D → Sto → Prop} {E : ErP} {d lo hi : D} (h : noI d = true) (q : Q (.bl false) S) : Rs (F_is_integer [d, lo, hi] S) Q E := by
  refine rs_fn ?_
  unfold G_is_integer
  refine ot_seq ?_
  cases d with
  | non => walk_at "pvc"; exact q
  | str s => walk_at "pvc"; exact q
  | bl b => walk_at "pvc"; exact q
  | _ => cases h
section
variable {S : Sto} {Q : D → Sto → Prop} {E : ErP} {a b : Int} {t f g : Nat}
/-- a form a + 0 k -/
abbrev FoA (S : Sto) (l : Nat) (a : Int) : Prop := S[l]? = some (.obj ci_Form [("alpha", .int a), ("beta", .int 0)])
theorem FoA.f0 {S' : Sto} {l : Nat} (h : FoA S l a) (k : Fr [] S S') : FoA S' l a := k.g0 h
theorem form_mk (q : ∀ S', Fr [] S S' → FoA S' S.length a → S'.length = S.length + 1 → Q (.ref S.length) S') : Rs (mkO 11 3 F_Form___init__ [.int a, .int 0] S) Q E := by
  refine rs_mkO rfl (rs_fn ?_)
  unfold G_Form___init__
  walk_at "pv"
  refine ex_fld (at_push (o := .obj 11 [])) (by decide) (Nat.le_of_ble_eq_true rfl) fun S1 f1 g1 l1 => ?_
  walk_at "pv"
  refine ex_fld g1 (by decide) (Nat.le_of_ble_eq_true rfl) fun S2 f2 g2 l2 => ?_
  walk_at "pv"
  have F : Fr [S.length] S S2 := (Fr.push (o := .obj 11 [])).trans (f1.trans f2)
  exact ⟨rfl, q S2 (F.cut fun x hx => by simp at hx; omega) g2 (by simp at l1 l2; omega)⟩
theorem nf_ok (q : ∀ S', Fr [] S S' → FoA S' S.length a → S'.length = S.length + 1 → Q (.ref S.length) S') : Rs (F_number_form [.int a] S) Q E := by
  refine rs_fn ?_
  unfold G_number_form
  walk_at "pv"
  exact form_mk q
theorem below_ok {d : D} (ht : S[t]? = some (.obj ci_Track [("until", d)])) (hf : FoA S f a) (hg : FoA S g b) (q : Q (.bl (decide (a < b))) S) : Rs (F_Track_below [.ref t, .ref f, .ref g] S) Q E := by
  unfold FoA at hf hg
  refine rs_fn ?_
  unfold G_Track_below
  walk_at "pv"
  refine ot_seq ?_
  walk_at "pv"
  refine if_d (fun h => ?_) (fun h => ?_)
  · refine ot_seq ?_
    walk_at "pvc"
    rw [decide_eq_true (show a < b by omega)] at q
    exact q
  · walk_at "pvc"
    rw [decide_eq_false (show ¬ a < b by omega)] at q
    exact q
theorem divide_ok {n : Int} (hf : FoA S f a) (h0 : 0 < n) (h1 : n < 10 ^ 50) (q : ∀ S', Fr [] S S' → FoA S' S.length (a / n) → S'.length = S.length + 1 → Q (.tup [.ref S.length, .int (a % n)]) S') : Rs (F_Track_divide [.ref t, .ref f, .int n] S) Q E := by
  unfold FoA at hf
  refine rs_fn ?_
  unfold G_Track_divide
  refine ot_seq ?_
  walk_at "pv"
  refine if_ny (by simp) ?_
  walk_at "pv"
  rw [show (0 : Int) / n = 0 by simp]
  refine form_mk fun S' f1 g1 l1 => ?_
  have hf' := f1.g0 hf
  walk_at "pv"
  exact q S' f1 g1 l1
theorem sub_ok (hf : FoA S f a) (hg : FoA S g b) (q : ∀ S', Fr [] S S' → FoA S' S.length (a - b) → S'.length = S.length + 1 → Q (.ref S.length) S') : Rs (dOwn 11 F_Form___sub__ (.ref f) (.ref g) S) Q E := by
  unfold FoA at hf hg
  refine rs_own (isIns_of hf) (isIns_of hg) (rs_fn ?_)
  unfold G_Form___sub__
  walk_at "pv"
  exact form_mk q
theorem add_ok (hf : FoA S f a) (hg : FoA S g b) (q : ∀ S', Fr [] S S' → FoA S' S.length (a + b) → S'.length = S.length + 1 → Q (.ref S.length) S') : Rs (dOwn 11 F_Form___add__ (.ref f) (.ref g) S) Q E := by
  unfold FoA at hf hg
  refine rs_own (isIns_of hf) (isIns_of hg) (rs_fn ?_)
  unfold G_Form___add__
  walk_at "pv"
  exact form_mk q
theorem mul_ok {n : Int} (hf : FoA S f a) (ha : -10 ^ 50 < a ∧ a < 10 ^ 50) (hn : -10 ^ 50 < n ∧ n < 10 ^ 50) (q : ∀ S', Fr [] S S' → FoA S' S.length (a * n) → S'.length = S.length + 1 → Q (.ref S.length) S') : Rs (dOwnI 11 F_Form___mul__ (.ref f) (.int n) S) Q E := by
  unfold FoA at hf
  refine rs_ownI (isIns_of hf) (rs_fn ?_)
  unfold G_Form___mul__
  walk_at "pv"
  rw [Int.zero_mul]
  exact form_mk q
theorem track_mk (q : ∀ S', Fr [] S S' → S'[S.length]? = some (.obj ci_Track [("until", .non)]) → S'.length = S.length + 1 → Q (.ref S.length) S') : Rs (mkO 12 1 F_Track___init__ [] S) Q E := by
  refine rs_mkO rfl (rs_fn ?_)
  unfold G_Track___init__
  walk_at "pv"
  refine ex_fld (at_push (o := .obj 12 [])) (by decide) (Nat.le_of_ble_eq_true rfl) fun S1 f1 g1 l1 => ?_
  walk_at "pv"
  have F : Fr [S.length] S S1 := (Fr.push (o := .obj 12 [])).trans f1
  exact ⟨rfl, q S1 (F.cut fun x hx => by simp at hx; omega) g1 (by simp at l1; omega)⟩
/-- a window -/
abbrev WiA (S : Sto) (l : Nat) (st sp ct sz : Int) : Prop := S[l]? = some (.obj ci_Window [("start", .int st), ("step", .int sp), ("count", .int ct), ("size", .int sz)])
def szOk (sz : Int) : Prop := sz = 1 ∨ sz = 2 ∨ sz = 4
/-- |x| as the code tells it -/
abbrev ab (x : Int) : Int := if x < 0 then -x else x
theorem win_mk {st sp ct sz : Int} (h1 : sp ≠ 0) (h2 : 0 ≤ ct) (h3 : szOk sz) (h4 : sz ≤ ab sp) (q : ∀ S', Fr [] S S' → WiA S' S.length st sp ct sz → S'.length = S.length + 1 → Q (.ref S.length) S') : Rs (mkO 13 5 F_Window___init__ [.int st, .int sp, .int ct, .int sz] S) Q E := by
  refine rs_mkO rfl (rs_fn ?_)
  unfold G_Window___init__
  refine ot_seq ?_
  walk_at "pv"
  refine isint_nn st ?_
  walk_at "pvc"
  refine isint_nn sp ?_
  walk_at "pvc"
  refine isint_ln 0 ct ?_
  rw [decide_eq_true h2]
  walk_at "pvc"
  refine isint_lh 1 4 sz ?_
  rw [decide_eq_true (show 1 ≤ sz ∧ sz ≤ 4 by unfold szOk at h3; omega)]
  walk_at "pvc"
  refine if_n (by unfold szOk at h3; rcases h3 with h | h | h <;> omega) ?_
  walk_at "pv"
  refine if_n (by unfold ab at h4; split at h4 <;> split <;> omega) ?_
  walk_at "pv"
  refine ex_fld (at_push (o := .obj 13 [])) (by decide) (Nat.le_of_ble_eq_true rfl) fun S1 f1 g1 l1 => ?_
  walk_at "pv"
  refine ex_fld g1 (by decide) (Nat.le_of_ble_eq_true rfl) fun S2 f2 g2 l2 => ?_
  walk_at "pv"
  refine ex_fld g2 (by decide) (Nat.le_of_ble_eq_true rfl) fun S3 f3 g3 l3 => ?_
  walk_at "pv"
  refine ex_fld g3 (by decide) (Nat.le_of_ble_eq_true rfl) fun S4 f4 g4 l4 => ?_
  walk_at "pv"
  have F : Fr [S.length] S S4 := (Fr.push (o := .obj 13 [])).trans (((f1.trans f2).trans f3).trans f4)
  exact ⟨rfl, q S4 (F.cut fun x hx => by simp at hx; omega) g4 (by simp at l1 l2 l3 l4; omega)⟩
end
def oD : Option Int → D | none => .non | some i => .int i
section
variable {S : Sto} {Q : D → Sto → Prop} {E : ErP} {a b : Int} {t f g lw : Nat}
abbrev TrA (S : Sto) (t : Nat) : Prop := S[t]? = some (.obj ci_Track [("until", .non)])
theorem fromend_ok {i ct : Int} {c : Nat} (hc : FoA S c ct) (q : ∀ l S', Fr [] S S' → FoA S' l (ends ct i) → Q (.ref l) S') : Rs (F_from_end [.ref t, .int i, .ref c] S) Q E := by
  refine rs_fn ?_
  unfold G_from_end
  refine ot_seq ?_
  walk_at "pv"
  refine if_d (fun h => ?_) (fun h => ?_)
  · walk_at "pv"
    refine nf_ok fun S1 f1 g1 l1 => ?_
    refine add_ok (f1.g0 hc) g1 fun S2 f2 g2 l2 => ?_
    unfold ends at q
    rw [if_pos h] at q
    exact q _ _ (f1.trans f2) g2
  · walk_at "pv"
    refine nf_ok fun S1 f1 g1 l1 => ?_
    unfold ends at q
    rw [if_neg h] at q
    exact q _ _ f1 g1
theorem limited_ok {x lo hi : Nat} {al ah : Int} (ht : TrA S t) (h1 : FoA S x a) (h2 : FoA S lo al) (h3 : FoA S hi ah) (q : ∀ l, FoA S l (lims a al ah) → Q (.ref l) S) : Rs (F_limited [.ref t, .ref x, .ref lo, .ref hi] S) Q E := by
  refine rs_fn ?_
  unfold G_limited
  refine ot_seq ?_
  walk_at "pv"
  refine below_ok ht h1 h2 ?_
  walk_at "pv"
  unfold lims at q
  refine if_d (fun h => ?_) (fun h => ?_)
  · walk_at "pv"
    rw [if_pos h] at q
    exact q _ h2
  walk_at "pv"
  rw [if_neg h] at q
  refine ot_seq ?_
  walk_at "pv"
  refine below_ok ht h3 h1 ?_
  walk_at "pv"
  refine if_d (fun h => ?_) (fun h => ?_)
  · walk_at "pv"
    rw [if_pos h] at q
    exact q _ h3
  walk_at "pv"
  rw [if_neg h] at q
  exact q _ h1
theorem chosen_ok {c : Nat} {ct k : Int} {f l : Option Int} (ht : TrA S t) (hc : FoA S c ct) (h0 : 0 ≤ ct) (hk : k ≠ 0) (hk2 : -100 ≤ k ∧ k ≤ 100)
    (q : ∀ bg mn S', Fr [] S S' → FoA S' bg (slB f l k ct) → FoA S' mn (slN f l k ct) → Q (.tup [.ref bg, .ref mn]) S') : Rs (F_chosen_cells [.ref t, .ref c, oD f, oD l, .int k] S) Q E := by
  refine rs_fn ?_
  unfold G_chosen_cells
  walk_at "pv"
  refine nf_ok fun S1 f1 g1 l1 => ?_
  have ht1 : TrA S1 t := f1.g0 ht
  have hc1 : FoA S1 c ct := f1.g0 hc
  refine ot_cut (fun e S' => Fr [] S1 S' ∧ ∃ bg sp x y z sv, FoA S' bg (slB f l k ct) ∧ FoA S' sp sv ∧ slN f l k ct = (if 0 < sv then (sv - 1) / (ab k) + 1 else 0) ∧ e = [some (.v (.ref t)), some (.v (.ref c)), some (.v (oD f)), some (.v (oD l)), some (.v (.int k)), some (.v (.ref S.length)), x, some (.v (.ref bg)), y, some (.v (.ref sp)), z, none]) ?_ ?_
  · walk_at "pv"
    refine if_d (fun hp => ?_) (fun hp => ?_)
    · walk_at "pv"
      refine nf_ok fun S2 f2 g2 l2 => ?_
      have ht2 : TrA S2 t := f2.g0 ht1
      have hc2 : FoA S2 c ct := f2.g0 hc1
      refine ot_cut (fun e S' => Fr [] S2 S' ∧ ∃ bg, FoA S' bg (slB f l k ct) ∧ e = [some (.v (.ref t)), some (.v (.ref c)), some (.v (oD f)), some (.v (oD l)), some (.v (.int k)), some (.v (.ref S.length)), some (.v (.ref S1.length)), some (.v (.ref bg)), none, none, none, none]) ?_ ?_
      · rw [slB_pos hp h0]
        cases f with
        | none => walk_at "pvc"; exact ⟨Fr.refl, _, g2, rfl⟩
        | some i =>
          walk_at "pvc"
          refine fromend_ok hc2 fun m S3 f3 g3 => ?_
          walk_at "pv"
          refine limited_ok (f3.g0 ht2) g3 (f3.g0 g2) (f3.g0 hc2) fun m2 g4 => ?_
          exact ⟨f3, _, g4, rfl⟩
      rintro e S3 ⟨f3, bg, hb, rfl⟩
      have ht3 := f3.g0 ht2
      have hc3 := f3.g0 hc2
      have g3 := f3.g0 g2
      refine ot_cut (fun e S' => Fr [] S3 S' ∧ ∃ en, FoA S' en (slE f l k ct) ∧ e = [some (.v (.ref t)), some (.v (.ref c)), some (.v (oD f)), some (.v (oD l)), some (.v (.int k)), some (.v (.ref S.length)), some (.v (.ref S1.length)), some (.v (.ref bg)), some (.v (.ref en)), none, none, none]) ?_ ?_
      · rw [slE_pos hp h0]
        cases l with
        | none => walk_at "pvc"; exact ⟨Fr.refl, _, hc3, rfl⟩
        | some i =>
          walk_at "pvc"
          refine fromend_ok hc3 fun m S4 f4 g4 => ?_
          walk_at "pv"
          refine limited_ok (f4.g0 ht3) g4 (f4.g0 g3) (f4.g0 hc3) fun m2 g5 => ?_
          exact ⟨f4, _, g5, rfl⟩
      rintro e S4 ⟨f4, en, he, rfl⟩
      walk_at "pv"
      refine sub_ok he (f4.g0 hb) fun S5 f5 g5 l5 => ?_
      refine ⟨((f2.trans f3).trans f4).trans f5, bg, _, _, _, _, _, f5.g0 (f4.g0 hb), g5, ?_, rfl⟩
      rw [slN_pos hp]
      unfold ab
      rw [if_neg (show ¬ k < 0 by omega)]
    · walk_at "pv"
      refine nf_ok fun S2 f2 g2 l2 => ?_
      have ht2 : TrA S2 t := f2.g0 ht1
      have hc2 : FoA S2 c ct := f2.g0 hc1
      walk_at "pv"
      refine sub_ok hc2 (f2.g0 g1) fun S3 f3 g3 l3 => ?_
      have ht3 := f3.g0 ht2
      have hc3 := f3.g0 hc2
      have n3 := f3.g0 g2
      refine ot_cut (fun e S' => Fr [] S3 S' ∧ ∃ bg, FoA S' bg (slB f l k ct) ∧ e = [some (.v (.ref t)), some (.v (.ref c)), some (.v (oD f)), some (.v (oD l)), some (.v (.int k)), some (.v (.ref S.length)), some (.v (.ref S1.length)), some (.v (.ref bg)), none, none, some (.v (.ref S2.length)), none]) ?_ ?_
      · rw [slB_neg hp h0]
        cases f with
        | none => walk_at "pvc"; exact ⟨Fr.refl, _, g3, rfl⟩
        | some i =>
          walk_at "pvc"
          refine fromend_ok hc3 fun m S4 f4 g4 => ?_
          walk_at "pv"
          refine limited_ok (f4.g0 ht3) g4 (f4.g0 n3) (f4.g0 g3) fun m2 g5 => ?_
          exact ⟨f4, _, g5, rfl⟩
      rintro e S4 ⟨f4, bg, hb, rfl⟩
      have ht4 := f4.g0 ht3
      have hc4 := f4.g0 hc3
      have n4 := f4.g0 n3
      have g4 := f4.g0 g3
      refine ot_cut (fun e S' => Fr [] S4 S' ∧ ∃ en, FoA S' en (slE f l k ct) ∧ e = [some (.v (.ref t)), some (.v (.ref c)), some (.v (oD f)), some (.v (oD l)), some (.v (.int k)), some (.v (.ref S.length)), some (.v (.ref S1.length)), some (.v (.ref bg)), some (.v (.ref en)), none, some (.v (.ref S2.length)), none]) ?_ ?_
      · rw [slE_neg hp h0]
        cases l with
        | none => walk_at "pvc"; exact ⟨Fr.refl, _, n4, rfl⟩
        | some i =>
          walk_at "pvc"
          refine fromend_ok hc4 fun m S5 f5 g5 => ?_
          walk_at "pv"
          refine limited_ok (f5.g0 ht4) g5 (f5.g0 n4) (f5.g0 g4) fun m2 g6 => ?_
          exact ⟨f5, _, g6, rfl⟩
      rintro e S5 ⟨f5, en, he, rfl⟩
      walk_at "pv"
      refine sub_ok (f5.g0 hb) he fun S6 f6 g6 l6 => ?_
      refine ⟨(((f2.trans f3).trans f4).trans f5).trans f6, bg, _, _, _, _, _, f6.g0 (f5.g0 hb), g6, ?_, rfl⟩
      rw [slN_neg (by omega)]
      unfold ab
      rw [if_pos (show k < 0 by omega)]
  rintro e S2 ⟨F2, bg, sp, x, y, z, sv, hb, hs, hN, rfl⟩
  have ht2 : TrA S2 t := F2.g0 ht1
  have hc2 : FoA S2 c ct := F2.g0 hc1
  refine ot_seq ?_
  walk_at "pv"
  refine nf_ok fun S3 f3 g3 l3 => ?_
  have ht3 : TrA S3 t := f3.g0 ht2
  walk_at "pv"
  refine below_ok ht3 g3 (f3.g0 hs) ?_
  walk_at "pv"
  refine if_nd (fun h => ?_) (fun h => ?_)
  · walk_at "pv"
    refine nf_ok fun S4 f4 g4 l4 => ?_
    walk_at "pv"
    rw [if_neg h] at hN
    exact q bg _ S4 (((f1.trans F2).trans f3).trans f4) (f4.g0 (f3.g0 hb)) (by rw [hN]; exact g4)
  rw [if_pos h] at hN
  walk_at "pv"
  refine sub_ok (f3.g0 hs) ((F2.trans f3).g0 g1) fun S4 f4 g4 l4 => ?_
  walk_at "pv"
  refine divide_ok g4 (by split <;> omega) (by split <;> omega) fun S5 f5 g5 l5 => ?_
  walk_at "pv"
  refine add_ok g5 ((((F2.trans f3).trans f4).trans f5).g0 g1) fun S6 f6 g6 l6 => ?_
  walk_at "pv"
  have F : Fr [] S S6 := ((((f1.trans F2).trans f3).trans f4).trans f5).trans f6
  exact q bg _ S6 F (f6.g0 (f5.g0 (f4.g0 (f3.g0 hb)))) (by rw [hN]; exact g6)
end
section
variable {S : Sto} {Q : D → Sto → Prop} {E : ErP} {t f g lw : Nat}
theorem ab_nat (x : Int) : ab x = (x.natAbs : Int) := by unfold ab; split <;> omega
theorem ab_mul {x k : Int} (hk : k ≠ 0) : ab x ≤ ab (x * k) := by rw [ab_nat, ab_nat]; have := natAbs_mul_ge (t := x) hk; omega
/-- a window that can be -/
structure WN (st sp ct sz : Int) : Prop where
  sp0 : sp ≠ 0
  ct0 : 0 ≤ ct
  ct1 : ct ≤ 10 ^ 6
  sz0 : szOk sz
  le : sz ≤ ab sp
  sp1 : -10 ^ 40 < sp ∧ sp < 10 ^ 40
theorem wsliced_ok {st sp ct sz k : Int} {fi la o : Option Int} (hw : WiA S lw st sp ct sz) (w : WN st sp ct sz) (ho : o.getD 1 = k) (hk : k ≠ 0) (hk2 : -100 ≤ k ∧ k ≤ 100)
    (q : ∀ l S', Fr [] S S' → WiA S' l (st + slB fi la k ct * sp) (sp * k) (slN fi la k ct) sz → S.length ≤ l → Q (.ref l) S') : Rs (F_Window_sliced [.ref lw, oD fi, oD la, oD o] S) Q E := by
  refine rs_fn ?_
  unfold G_Window_sliced
  refine ot_cut (fun e S' => S = S' ∧ e = envS 6 [.ref lw, oD fi, oD la, .int k]) ?_ ?_
  · cases o with
    | none => subst ho; walk_at "pvc"; exact ⟨rfl, rfl⟩
    | some i => subst ho; walk_at "pvc"; exact ⟨rfl, rfl⟩
  rintro e S' ⟨rfl, rfl⟩
  refine ot_seq ?_
  walk_at "pv"
  refine if_n hk ?_
  walk_at "pv"
  refine track_mk fun S1 f1 g1 l1 => ?_
  have w1 : WiA S1 lw st sp ct sz := f1.g0 hw
  walk_at "pv"
  refine nf_ok fun S2 f2 g2 l2 => ?_
  walk_at "pv"
  refine chosen_ok (f2.g0 g1) g2 w.ct0 hk hk2 fun bg mn S3 f3 hb hm => ?_
  have w3 : WiA S3 lw st sp ct sz := f3.g0 (f2.g0 w1)
  refine ⟨_, rfl, ?_⟩
  have := slB_in (f := fi) (l := la) (k := k) w.ct0
  have := w.ct1
  have := w.sp1
  have n0 := slN_nn (f := fi) (l := la) (c := ct) hk
  walk_at "pv"
  refine win_mk (Int.mul_ne_zero w.sp0 hk) n0 w.sz0 (Int.le_trans w.le (ab_mul hk)) fun S4 f4 g4 l4 => ?_
  exact q _ _ (((f1.trans f2).trans f3).trans f4) g4 (by have := f1.len; have := f2.len; have := f3.len; omega)
/-- a cast that can be -/
def castOk (sp ct sz nw : Int) : Prop := ¬ (sp ≠ sz ∧ 2 ≤ ct) ∧ (sz = 1 ∨ nw = 1) ∧ (ct * sz) % nw = 0
theorem castc_ok {sp ct sz nw : Int} {c : Nat} (ht : TrA S t) (hc : FoA S c ct) (h1 : szOk sz) (h2 : szOk nw) (h0 : 0 ≤ ct ∧ ct ≤ 1000000)
    (q : castOk sp ct sz nw → ∀ l S', Fr [] S S' → FoA S' l (ct * sz / nw) → S.length ≤ l → Q (.ref l) S') (qn : ¬ castOk sp ct sz nw → ∀ S', Fr [] S S' → Q .non S') : Rs (F_cast_count [.ref t, .int sp, .ref c, .int sz, .int nw] S) Q E := by
  have hz : 1 ≤ sz ∧ sz ≤ 4 := by unfold szOk at h1; omega
  have hn : 1 ≤ nw ∧ nw ≤ 4 := by unfold szOk at h2; omega
  refine rs_fn ?_
  unfold G_cast_count
  refine ot_cut (fun e S' => Fr [] S S' ∧ ¬ (sp ≠ sz ∧ 2 ≤ ct) ∧ e = envS 6 [.ref t, .int sp, .ref c, .int sz, .int nw]) ?_ ?_
  · walk_at "pv"
    refine if_nd (fun z => ?_) (fun z => ?_)
    · walk_at "pv"
      refine nf_ok fun S1 f1 g1 l1 => ?_
      walk_at "pv"
      refine below_ok (f1.g0 ht) (f1.g0 hc) g1 ?_
      walk_at "pv"
      refine if_nd (fun y => ?_) (fun y => ?_)
      · walk_at "pv"
        exact qn (fun h => h.1 ⟨z, by omega⟩) S1 f1
      · walk_at "pv"
        exact ⟨f1, fun h => by omega, rfl⟩
    · walk_at "pvc"
      exact ⟨Fr.refl, fun h => h.1 z, rfl⟩
  rintro e S1 ⟨f1, c1, rfl⟩
  have ht1 := f1.g0 ht
  have hc1 := f1.g0 hc
  refine ot_cut (fun e S' => S1 = S' ∧ (sz = 1 ∨ nw = 1) ∧ e = envS 6 [.ref t, .int sp, .ref c, .int sz, .int nw]) ?_ ?_
  · walk_at "pv"
    refine if_nd (fun z => ?_) (fun z => ?_)
    · walk_at "pv"
      refine if_nd (fun y => ?_) (fun y => ?_)
      · walk_at "pv"
        exact qn (fun h => by rcases h.2.1 with h | h <;> omega) S1 f1
      · walk_at "pv"; exact ⟨rfl, .inr y, rfl⟩
    · walk_at "pvc"; exact ⟨rfl, .inl z, rfl⟩
  rintro e S' ⟨rfl, c2, rfl⟩
  walk_at "pv"
  refine mul_ok (n := sz) hc1 (by omega) (by omega) fun S2 f2 g2 l2 => ?_
  walk_at "pv"
  refine divide_ok g2 (by omega) (by omega) fun S3 f3 g3 l3 => ?_
  walk_at "pv"
  refine ot_seq ?_
  walk_at "pv"
  have F := (f1.trans f2).trans f3
  have := f1.len
  refine if_nd (fun z => ?_) (fun z => ?_)
  · walk_at "pv"
    exact qn (fun h => z h.2.2) _ F
  walk_at "pv"
  exact q ⟨c1, c2, z⟩ _ _ F g3 (by omega)
theorem wrecast_ok {st sp ct sz nw : Int} (hw : WiA S lw st sp ct sz) (h1 : szOk sz) (h2 : szOk nw) (h0 : 0 ≤ ct ∧ ct ≤ 1000000)
    (q : castOk sp ct sz nw → ∀ l S', Fr [] S S' → WiA S' l st nw (ct * sz / nw) nw → S.length ≤ l → Q (.ref l) S') (qe : ¬ castOk sp ct sz nw → ∀ S', Fr [] S S' → E 3 none S') : Rs (F_Window_recast [.ref lw, .int nw] S) Q E := by
  have hz : 1 ≤ sz ∧ sz ≤ 4 := by unfold szOk at h1; omega
  have hn : 1 ≤ nw ∧ nw ≤ 4 := by unfold szOk at h2; omega
  have hp : 0 ≤ ct * sz / nw := Int.ediv_nonneg (Int.mul_nonneg (by omega) (by omega)) (by omega)
  refine rs_fn ?_
  unfold G_Window_recast
  walk_at "pv"
  refine track_mk fun S1 f1 g1 l1 => ?_
  have w1 : WiA S1 lw st sp ct sz := f1.g0 hw
  walk_at "pv"
  refine nf_ok fun S2 f2 g2 l2 => ?_
  have w2 : WiA S2 lw st sp ct sz := f2.g0 w1
  walk_at "pv"
  refine castc_ok (f2.g0 g1) g2 h1 h2 h0 (fun ok m S3 f3 g3 l3 => ?_) (fun no S3 f3 => ?_)
  · have w3 : WiA S3 lw st sp ct sz := f3.g0 w2
    walk_at "pv"
    refine ot_seq ?_
    walk_at "pvc"
    refine win_mk (by omega) hp h2 (by unfold ab; rw [if_neg (by omega)]; exact Int.le_refl _) fun S4 f4 g4 l4 => ?_
    exact q ok _ _ (((f1.trans f2).trans f3).trans f4) g4 (by have := f1.len; have := f2.len; have := f3.len; omega)
  · walk_at "pv"
    refine ot_seq ?_
    walk_at "pvc"
    exact qe no _ ((f1.trans f2).trans f3)
end
structure Vw where
  lc : Nat
  lw : Nat
  lo : Nat
  lk : Bool
  cl : Bool
  st : Int
  sp : Int
  ct : Int
  sz : Int
abbrev VOb (v : Vw) : Ob := .obj ci_View [("cells", .ref v.lc), ("window", .ref v.lw), ("locked", .bl v.lk), ("size", .int v.sz), ("lent_out", .ref v.lo), ("closed", .bl v.cl)]
structure VA (S : Sto) (l : Nat) (v : Vw) : Prop where
  ob : S[l]? = some (VOb v)
  wi : WiA S v.lw v.st v.sp v.ct v.sz
abbrev StA (S : Sto) (s lc lo : Nat) : Prop := S[s]? = some (.obj ci_Store [("cells", .ref lc), ("lent_out", .ref lo)])
section
variable {S : Sto} {Q : D → Sto → Prop} {E : ErP} {l lw lc lo s : Nat} {ds : List D} {v : Vw}
theorem VA.f0 {S' : Sto} (h : VA S l v) (f : Fr [] S S') : VA S' l v := ⟨f.g0 h.ob, f.g0 h.wi⟩
/-- lists may change -/
theorem VA.fl {S' : Sto} {L : List Nat} (h : VA S l v) (f : Fr L S S') (hL : ∀ m ∈ L, ∃ xs, S[m]? = some (.lst xs)) : VA S' l v :=
  ⟨f.get (fun z => by obtain ⟨xs, e⟩ := hL _ z; rw [h.ob] at e; cases e) h.ob, f.get (fun z => by obtain ⟨xs, e⟩ := hL _ z; rw [h.wi] at e; cases e) h.wi⟩
theorem view_mk {lk : Bool} {st sp ct sz : Int} (hw : WiA S lw st sp ct sz) (ho : S[lo]? = some (.lst ds)) (hl : ds.length < 100000)
    (q : ∀ S', Fr [lo] S S' → VA S' S.length ⟨lc, lw, lo, lk, false, st, sp, ct, sz⟩ → S'[lo]? = some (.lst (ds ++ [.ref S.length])) → S'.length = S.length + 1 → Q (.ref S.length) S') :
    Rs (mkO 14 5 F_View___init__ [.ref lc, .ref lw, .bl lk, .ref lo] S) Q E := by
  have hlo := lt_of ho
  have hlw := lt_of hw
  refine rs_mkO rfl (rs_fn ?_)
  unfold G_View___init__
  have w0 : WiA (S ++ [.obj 14 []]) lw st sp ct sz := (Fr.push (L := [])).g0 hw
  walk_at "pv"
  refine ex_fld (at_push (o := .obj 14 [])) (by decide) (Nat.le_of_ble_eq_true rfl) fun S1 f1 g1 l1 => ?_
  walk_at "pv"
  refine ex_fld g1 (by decide) (Nat.le_of_ble_eq_true rfl) fun S2 f2 g2 l2 => ?_
  walk_at "pv"
  refine ex_fld g2 (by decide) (Nat.le_of_ble_eq_true rfl) fun S3 f3 g3 l3 => ?_
  have w3 : WiA S3 lw st sp ct sz := ((f1.trans f2).trans f3).get (by simp; omega) w0
  walk_at "pv"
  refine ex_fld g3 (by decide) (Nat.le_of_ble_eq_true rfl) fun S4 f4 g4 l4 => ?_
  walk_at "pv"
  refine ex_fld g4 (by decide) (Nat.le_of_ble_eq_true rfl) fun S5 f5 g5 l5 => ?_
  walk_at "pv"
  refine ex_fld g5 (by decide) (Nat.le_of_ble_eq_true rfl) fun S6 f6 g6 l6 => ?_
  have F6 : Fr [S.length] (S ++ [.obj 14 []]) S6 := ((((f1.trans f2).trans f3).trans f4).trans f5).trans f6
  have F0 : Fr [] S S6 := ((Fr.push (o := .obj 14 []) (L := [S.length])).trans F6).cut fun x hx => by simp at hx; omega
  have o6 := F0.g0 ho
  walk_at "pv"
  refine rs_append o6 hl fun S7 f7 g7 l7 => ?_
  have F7 : Fr [lo] S S7 := F0.nil.trans f7
  exact ⟨rfl, q S7 F7 ⟨f7.get (by simp; omega) g6, f7.get (fun z => by simp at z; subst z; rw [hw] at ho; cases ho) (F0.g0 hw)⟩ g7 (by simp at l1; omega)⟩
/-- what is a byte, what is none -/
def isBy (d : D) : Prop := ∃ i : Int, d = .int i ∧ 0 ≤ i ∧ i ≤ 255
def noBy (d : D) : Prop := noI d = true ∨ ∃ i : Int, d = .int i ∧ ¬ (0 ≤ i ∧ i ≤ 255)
theorem chk_loop {k : Chk} {N : NxP} {RR : RtP} {BB CC : NxP} {X : XxP} {x0 x1 : Option Sl} (n : Nat) (hk : ∀ S', S' = S → ChkOk k S') (hn : n ≤ ds.length) (hb : ∀ i d, i < n → ds[i]? = some d → isBy d) (he : ∀ d, ds[n]? = some d → noBy d)
    (qn : n = ds.length → ∀ x y, N [x0, x1, x, y] S) (qx : n < ds.length → ∀ e, X 5 (some [("index", .int n)]) e S) :
    Ot (loopS k (.tp [2, 3]) (sIf (bNot (bE (eF 3 F_is_integer (aC (eV 3) (aC (eC (.int 0)) (aC (eC (.int 255)) aN)))))) (sRaiseX 5 "index" (aC (eV 2) aN)) sNext) (enumF 0 ds) [x0, x1, none, none] S) N RR BB CC X := by
  refine loop_inv (fun i e S' => S' = S ∧ i ≤ n ∧ ∃ x y, e = [x0, x1, x, y]) ⟨rfl, Nat.zero_le _, _, _, rfl⟩ (fun _ _ S' h => hk S' h.1) ?_ ?_
  · rintro i d e S' hd ⟨rfl, hi, x, y, rfl⟩
    obtain ⟨z, hz, rfl⟩ := enumF_get hd
    refine ⟨_, rfl, ?_⟩
    rw [Nat.zero_add]
    walk_at "pv"
    by_cases hin : i < n
    · obtain ⟨b, rfl, b0, b1⟩ := hb i z hin hz
      refine isint_lh 0 255 b ?_
      rw [decide_eq_true (show 0 ≤ b ∧ b ≤ 255 from ⟨b0, b1⟩)]
      walk_at "pvc"
      exact ⟨rfl, by omega, _, _, rfl⟩
    · have e0 : i = n := by omega
      subst e0
      have hl : i < ds.length := (List.getElem?_eq_some_iff.mp hz).1
      rcases he z hz with h | ⟨b, rfl, hb2⟩
      · refine isint_n h ?_
        walk_at "pv"
        exact ⟨_, rfl, qx hl _⟩
      · refine isint_lh 0 255 b ?_
        rw [decide_eq_false hb2]
        walk_at "pv"
        exact ⟨_, rfl, qx hl _⟩
  · rintro e S' ⟨rfl, hi, x, y, rfl⟩
    rw [enumF_len] at hi
    exact qn (by omega) x y
/-- Store(values) -/
theorem store_mk {bs : List Int} {d : D} (hd : (∃ m, d = .ref m ∧ S[m]? = some (.lst (bs.map D.int))) ∨ d = .tup (bs.map D.int)) (hb : ∀ b ∈ bs, 0 ≤ b ∧ b ≤ 255) (hl : bs.length ≤ 10000)
    (q : ∀ lc lo S', Fr [] S S' → StA S' S.length lc lo → S'[lc]? = some (.lst (bs.map D.int)) → S'[lo]? = some (.lst []) → S.length < lc → lc < lo → Q (.ref S.length) S') : Rs (mkO 15 2 F_Store___init__ [d] S) Q E := by
  refine rs_mkO rfl (rs_fn ?_)
  unfold G_Store___init__
  have fp : Fr [] S (S ++ [.obj 15 []]) := Fr.push
  have gp : (S ++ [.obj 15 []])[S.length]? = some (.obj 15 []) := at_push
  generalize hS0 : S ++ [.obj 15 []] = S0 at fp gp
  have l0 : S0.length = S.length + 1 := by rw [← hS0]; simp
  have hd0 : (∃ m, d = .ref m ∧ S0[m]? = some (.lst (bs.map D.int))) ∨ d = .tup (bs.map D.int) := by
    rcases hd with ⟨m, e, h⟩ | e
    · exact .inl ⟨m, e, fp.g0 h⟩
    · exact .inr e
  have hby : ∀ i z, i < bs.length → (bs.map D.int)[i]? = some z → isBy z := by
    intro i z hi hz
    rw [List.getElem?_map] at hz
    obtain ⟨b, h1, rfl⟩ := Option.map_eq_some_iff.mp hz
    have := hb b (List.mem_of_getElem? h1)
    exact ⟨b, rfl, this.1, this.2⟩
  have hend : ∀ z, (bs.map D.int)[bs.length]? = some z → noBy z := fun z hz => by rw [List.getElem?_eq_none (by simp)] at hz; cases hz
  refine ot_cut (fun e S' => S' = S0 ∧ e = envS 4 [.ref S.length, d]) ?_ ?_
  · walk_at "pv"
    rcases hd0 with ⟨m, rfl, h⟩ | rfl
    · refine rs_isiTys (k := true) (by unfold isiTys D.kd; dsimp only; rw [h]; rfl) ?_
      walk_at "pvc"
      rw [List.length_map]
      refine if_n (by omega) ?_
      walk_at "pv"
      exact ⟨rfl, rfl⟩
    · refine rs_isiTys (k := true) rfl ?_
      walk_at "pvc"
      rw [List.length_map]
      refine if_n (by omega) ?_
      walk_at "pv"
      exact ⟨rfl, rfl⟩
  rintro e S1 ⟨rfl, rfl⟩
  refine ot_cut (fun e S' => S' = S1 ∧ ∃ x y, e = [some (.v (.ref S.length)), some (.v d), x, y]) ?_ ?_
  · refine ot_for ?_
    walk_at "pv"
    rcases hd0 with ⟨m, rfl, h⟩ | rfl
    · refine .inl ⟨_, _, rfl, h, ?_⟩
      exact chk_loop bs.length (fun S' e => by subst e; exact h) (by simp) hby hend (fun _ x y => ⟨rfl, x, y, rfl⟩) (fun z => by simp at z)
    · refine .inr ⟨_, rfl, ?_⟩
      exact chk_loop bs.length (fun S' e => trivial) (by simp) hby hend (fun _ x y => ⟨rfl, x, y, rfl⟩) (fun z => by simp at z)
  rintro e S' ⟨rfl, x, y, rfl⟩
  have lst : ∀ {R : D → Sto → Prop}, (∀ S2, Fr [] S' S2 → S2[S'.length]? = some (.lst (bs.map D.int)) → S2.length = S'.length + 1 → R (.ref S'.length) S2) → Rs (bList [d] S') R (er1 (fun C x _ S => E C x S) [some (.v (.ref S.length)), some (.v d), x, y]) := by
    intro R q
    rcases hd0 with ⟨m, rfl, h⟩ | rfl
    · exact rs_listL h q
    · exact rs_ok (q _ Fr.push at_push (by simp))
  walk_at "pv"
  refine lst fun S2 f2 g2 l2 => ?_
  walk_at "pv"
  refine ex_fld (f2.g0 gp) (by decide) (Nat.le_of_ble_eq_true rfl) fun S3 f3 g3 l3 => ?_
  walk_at "pv"
  refine rs_mkL fun S4 f4 g4 l4 => ?_
  walk_at "pv"
  refine ex_fld (f4.g0 g3) (by decide) (Nat.le_of_ble_eq_true rfl) fun S5 f5 g5 l5 => ?_
  have F : Fr [S.length] S S5 := (fp.nil.trans f2.nil).trans (f3.trans (f4.nil.trans f5))
  exact ⟨rfl, q S'.length S3.length S5 (F.cut fun x hx => by simp at hx; omega) g5 (f5.get (by simp; omega) (f4.g0 (f3.get (by simp; omega) g2))) (f5.get (by simp; omega) g4) (by omega) (by omega)⟩
end
/-- L cells of bytes at lc -/
structure Ce (S : Sto) (lc : Nat) (L : Int) (bs : List Int) : Prop where
  at_ : S[lc]? = some (.lst (bs.map D.int))
  len : (bs.length : Int) = L
  by_ : ∀ b ∈ bs, 0 ≤ b ∧ b ≤ 255
theorem Ce.f0 {S S' : Sto} {lc : Nat} {L : Int} {bs : List Int} (h : Ce S lc L bs) (f : Fr [] S S') : Ce S' lc L bs := ⟨f.g0 h.at_, h.len, h.by_⟩
theorem Ce.fl {S S' : Sto} {lc : Nat} {L : Int} {bs : List Int} {M : List Nat} (h : Ce S lc L bs) (f : Fr M S S') (hm : lc ∉ M) : Ce S' lc L bs := ⟨f.get hm h.at_, h.len, h.by_⟩
/-- the byte at a place; a cell's value; the bytes of cells -/
def gB (bs : List Int) (p : Int) : Int := bs.getD p.toNat 0
def foldB (bs : List Int) (row : List Int) : Int := row.foldl (fun a p => a * 256 + gB bs p) 0
def valB (bs : List Int) (row : List Int) : Int := foldB bs row.reverse
/-- the places of a cell; of all cells -/
def plc (st sp sz i : Int) : List Int := (List.range sz.toNat).map fun (k : Nat) => st + i * sp + (k : Int)
def rowsOf (st sp ct sz : Int) : List (List Int) := (List.range ct.toNat).map fun (i : Nat) => plc st sp sz (i : Int)
def givS (a : List Int × Int) (p : Int) : List Int × Int := (a.1.set p.toNat (a.2 % 256), a.2 / 256)
def givB (bs : List Int) (row : List Int) (x : Int) : List Int := (row.foldl givS (bs, x)).1
theorem gB_at {bs : List Int} {p : Int} (h0 : 0 ≤ p) (h1 : p < bs.length) : (bs.map D.int)[p.toNat]? = some (.int (gB bs p)) := by
  have h : p.toNat < bs.length := by omega
  unfold gB
  rw [List.getElem?_map, List.getElem?_eq_getElem h, List.getD_eq_getElem?_getD, List.getElem?_eq_getElem h]
  rfl
theorem gB_by {bs : List Int} {p : Int} (hb : ∀ b ∈ bs, 0 ≤ b ∧ b ≤ 255) : 0 ≤ gB bs p ∧ gB bs p ≤ 255 := by
  unfold gB
  rw [List.getD_eq_getElem?_getD]
  cases h : bs[p.toNat]? with
  | none => exact ⟨Int.le_refl _, by decide⟩
  | some b => exact hb b (List.mem_of_getElem? h)
theorem rng_plc {st sp sz i : Int} : rngD (st + i * sp) sz.toNat = (plc st sp sz i).map D.int := by
  unfold rngD plc
  rw [List.map_map]
  rfl
theorem plc_len {st sp sz i : Int} : (plc st sp sz i).length = sz.toNat := by unfold plc; simp
theorem plc_mem {st sp sz i p : Int} (h : p ∈ plc st sp sz i) : st + i * sp ≤ p ∧ p < st + i * sp + sz := by
  unfold plc at h
  obtain ⟨k, hk, rfl⟩ := List.mem_map.mp h
  have := List.mem_range.mp hk
  omega
theorem foldB_snoc {bs row : List Int} {p : Int} : foldB bs (row ++ [p]) = foldB bs row * 256 + gB bs p := by unfold foldB; rw [List.foldl_append]; rfl
/-- all places within L bytes -/
structure VI (L : Int) (v : Vw) : Prop where
  wn : WN v.st v.sp v.ct v.sz
  in_ : ∀ i, 0 ≤ i → i < v.ct → 0 ≤ v.st + i * v.sp ∧ v.st + i * v.sp + v.sz ≤ L
  many : v.ct * v.sz ≤ 10000
theorem pow256 {i : Nat} {r b : Int} (h : i < 4) (h0 : 0 ≤ r) (h1 : r < 256 ^ i) (b0 : 0 ≤ b) (b1 : b ≤ 255) : 0 ≤ r * 256 + b ∧ r * 256 + b < 256 ^ (i + 1) ∧ r < 10 ^ 30 := by
  match i, h with
  | 0, _ => omega
  | 1, _ => omega
  | 2, _ => omega
  | 3, _ => omega
theorem and255 {y : Int} (h : 0 ≤ y) : Builtin.bitAnd y 255 = y % 256 := by
  obtain ⟨n, rfl⟩ := Int.eq_ofNat_of_zero_le h
  have e : Builtin.bitAnd ((n : Nat) : Int) 255 = (((n : Int).toNat &&& (255 : Int).toNat : Nat) : Int) := by
    unfold Builtin.bitAnd
    rw [show decide ((0 : Int) ≤ (n : Int)) = true by rw [decide_eq_true_eq]; omega]
    rfl
  rw [e]
  have : n &&& 255 = n % 256 := Nat.and_two_pow_sub_one_eq_mod n 8
  rw [Int.toNat_natCast, show (255 : Int).toNat = 255 from rfl, this]
  omega
section
variable {S : Sto} {Q : D → Sto → Prop} {E : ErP} {l lc lo s : Nat} {ds : List D} {v : Vw} {L : Int} {bs : List Int}
theorem check_ok (h : VA S l v) (q : v.cl = false → Q .non S) (qe : v.cl = true → E 7 none S) : Rs (F_View_check [.ref l] S) Q E := by
  have o := h.ob
  refine rs_fn ?_
  unfold G_View_check
  walk_at "pv"
  exact ⟨fun z => by walk_at "pv"; exact qe z, fun z => by walk_at "pv"; exact q z⟩
theorem sz_le (w : VI L v) : 1 ≤ v.sz ∧ v.sz ≤ 4 ∧ v.ct ≤ 10000 := by
  have a := w.wn.sz0
  have b := w.many
  have c := w.wn.ct0
  unfold szOk at a
  have : 1 ≤ v.sz ∧ v.sz ≤ 4 := by omega
  refine ⟨this.1, this.2, ?_⟩
  have := Int.mul_le_mul_of_nonneg_left this.1 c
  omega
theorem places_ok {i : Int} (h : VA S l v) (w : VI L v) (hL : L ≤ 100000) (h0 : 0 ≤ i) (h1 : i < v.ct) (q : ∀ S', Fr [] S S' → S'[S.length]? = some (.lst ((plc v.st v.sp v.sz i).map D.int)) → S'.length = S.length + 1 → Q (.ref S.length) S') : Rs (F_View_places_of [.ref l, .int i] S) Q E := by
  have o := h.ob
  have wi := h.wi
  have a1 := sz_le w
  have a3 := w.wn.sp1
  have a6 := w.in_ i h0 h1
  refine rs_fn ?_
  unfold G_View_places_of
  walk_at "pv"
  refine ⟨_, _, rfl, rfl, ?_, fun S' f1 g1 l1 => ?_⟩
  · omega
  · rw [show v.st + i * v.sp + v.sz - (v.st + i * v.sp) = v.sz by omega, rng_plc] at g1
    exact q S' f1 g1 l1
theorem value_ok {i : Int} (h : VA S l v) (c : Ce S v.lc L bs) (w : VI L v) (hL : L ≤ 100000) (h0 : 0 ≤ i) (h1 : i < v.ct) (q : ∀ S', Fr [] S S' → Q (.int (valB bs (plc v.st v.sp v.sz i))) S') : Rs (F_View_value_at [.ref l, .int i] S) Q E := by
  have a6 := w.in_ i h0 h1
  have a8 := sz_le w
  have ob := h.ob
  refine rs_fn ?_
  unfold G_View_value_at
  walk_at "pv"
  refine ot_cut (fun e S' => Fr [] S S' ∧ ∃ x, e = [some (.v (.ref l)), some (.v (.int i)), some (.v (.int (valB bs (plc v.st v.sp v.sz i)))), x]) ?_ ?_
  · walk_at "pv"
    refine places_ok h w hL h0 h1 fun S1 f1 g1 l1 => ?_
    walk_at "pv"
    refine rs_listL g1 fun S2 f2 g2 l2 => ?_
    walk_at "pv"
    refine ⟨_, _, rfl, g2, ?_⟩
    have o2 : S2[l]? = some (VOb v) := f2.g0 (f1.g0 ob)
    have c2 := (c.f0 f1).f0 f2
    generalize hrow : plc v.st v.sp v.sz i = row at *
    have hmem : ∀ p ∈ row, 0 ≤ p ∧ p < bs.length := fun p hp => by rw [← hrow] at hp; have := plc_mem hp; have := c.len; omega
    have hlen : row.length ≤ 4 := by rw [← hrow, plc_len]; omega
    rw [← List.map_reverse]
    refine loop_inv (fun j e S' => S' = S2 ∧ ∃ r : Int, (0 ≤ r ∧ r < 256 ^ j) ∧ r = foldB bs (row.reverse.take j) ∧ ∃ x, e = [some (.v (.ref l)), some (.v (.int i)), some (.v (.int r)), x]) ⟨rfl, 0, by simp, rfl, _, rfl⟩ (fun _ _ S' hh => by rw [hh.1]; exact g2) ?_ ?_
    · rintro j d e S' hd ⟨rfl, r, hr, er, x, rfl⟩
      rw [List.getElem?_map] at hd
      obtain ⟨p, hp, rfl⟩ := Option.map_eq_some_iff.mp hd
      have hj := (List.getElem?_eq_some_iff.mp hp).1
      rw [List.length_reverse] at hj
      have hm := hmem p (List.mem_reverse.mp (List.mem_of_getElem? hp))
      have hb := gB_by (p := p) c2.by_
      have hg := gB_at hm.1 hm.2
      have hp5 := pow256 (by omega) hr.1 hr.2 hb.1 hb.2
      refine ⟨_, rfl, ?_⟩
      walk_at "pv"
      refine rs_ixL c2.at_ (atI_int hm.1 hg) ?_
      walk_at "pv"
      refine ⟨rfl, _, ⟨hp5.1, hp5.2.1⟩, ?_, _, rfl⟩
      rw [List.take_add_one, hp, er]
      exact foldB_snoc.symm
    · rintro e S' ⟨rfl, r, hr, er, x, rfl⟩
      refine ⟨f1.trans f2, x, ?_⟩
      rw [er, List.length_map, List.take_length]
      rfl
  · rintro e S' ⟨F, x, rfl⟩
    walk_at "pv"
    exact q S' F
end
theorem rows_len {st sp ct sz : Int} : (rowsOf st sp ct sz).length = ct.toNat := by unfold rowsOf; simp
theorem givS_len {row : List Int} {a : List Int × Int} : (row.foldl givS a).1.length = a.1.length := by
  induction row generalizing a with
  | nil => rfl
  | cons p r ih => rw [List.foldl_cons, ih]; unfold givS; exact List.length_set
theorem givB_len {bs row : List Int} {x : Int} : (givB bs row x).length = bs.length := givS_len
theorem givS_nn {row : List Int} {a : List Int × Int} (h : 0 ≤ a.2) : 0 ≤ (row.foldl givS a).2 := by
  induction row generalizing a with
  | nil => exact h
  | cons p r ih => rw [List.foldl_cons]; exact ih (by unfold givS; exact Int.ediv_nonneg h (by decide))
theorem givS_by {row : List Int} {a : List Int × Int} (h : ∀ b ∈ a.1, 0 ≤ b ∧ b ≤ 255) : ∀ b ∈ (row.foldl givS a).1, 0 ≤ b ∧ b ≤ 255 := by
  induction row generalizing a with
  | nil => exact h
  | cons p r ih =>
    rw [List.foldl_cons]
    refine ih fun b hb => ?_
    unfold givS at hb
    rcases List.mem_or_eq_of_mem_set hb with hb | rfl
    · exact h b hb
    · have := Int.emod_nonneg a.2 (show (256 : Int) ≠ 0 by decide); have := Int.emod_lt_of_pos a.2 (show (0 : Int) < 256 by decide); omega
theorem givB_by {bs row : List Int} {x : Int} (h : ∀ b ∈ bs, 0 ≤ b ∧ b ≤ 255) : ∀ b ∈ givB bs row x, 0 ≤ b ∧ b ≤ 255 := givS_by h
section
variable {S : Sto} {Q : D → Sto → Prop} {E : ErP} {l lc lo s : Nat} {ds : List D} {v : Vw} {L : Int} {bs : List Int}
theorem listed_ok (h : VA S l v) (c : Ce S v.lc L bs) (w : VI L v) (hL : L ≤ 100000) (hc : v.cl = false) (q : ∀ m S', Fr [] S S' → S'[m]? = some (.lst (((rowsOf v.st v.sp v.ct v.sz).map (valB bs)).map D.int)) → S.length ≤ m → Q (.ref m) S') : Rs (F_View_listed [.ref l] S) Q E := by
  have ob := h.ob
  have wi := h.wi
  have a8 := sz_le w
  have a9 := w.wn.ct0
  refine rs_fn ?_
  unfold G_View_listed
  walk_at "pv"
  refine check_ok h (fun _ => ?_) (fun z => by rw [hc] at z; cases z)
  walk_at "pv"
  refine rs_comp ?_
  walk_at "pv"
  refine ⟨_, rfl, by omega, ?_⟩
  refine ⟨by rw [rng_len]; omega, ?_⟩
  obtain ⟨zs, T, e1, hF, e2⟩ := loopC_inv (k := none) (p := .nm 1) (tb := bYes) (a := eM 14 "value_at" 2 F_View_value_at (eV 0) (aC (eV 1) aN)) (e := wipeE (envS 2 [.ref l]) [1]) (rngD 0 v.ct.toNat) (fun j ys T => Fr [] S T ∧ ys = (((List.range j).map fun (i : Nat) => valB bs (plc v.st v.sp v.sz (i : Int))).map D.int)) 0 [] S ⟨Fr.refl, rfl⟩ (fun _ _ _ _ => trivial) (by
    rintro j d zs T hd ⟨F, rfl⟩
    obtain ⟨rfl, hj⟩ := rng_get hd
    refine ⟨_, rfl, ?_⟩
    refine rs_ok ⟨fun _ => ?_, fun z => by cases z⟩
    have hT := h.f0 F
    have oT := hT.ob
    walk_at "pv"
    refine value_ok hT (c.f0 F) w hL (by omega) (by omega) fun T2 f2 => ?_
    exact ⟨F.trans f2, by rw [List.range_succ, List.map_append, List.map_append]; simp⟩)
  refine ⟨zs, T, e1, fun S3 f3 g3 l3 => ?_⟩
  rw [List.nil_append, rng_len, Nat.zero_add] at e2
  subst e2
  refine q _ S3 (hF.trans f3) ?_ (by have := hF.len; omega)
  rw [g3]
  unfold rowsOf
  rw [List.map_map (f := fun (i : Nat) => plc v.st v.sp v.sz (i : Int))]
  rfl
theorem len_ok (h : VA S l v) (w : VI L v) (hc : v.cl = false) (q : ∀ S', Fr [] S S' → Q (.int v.ct) S') : Rs (F_View___len__ [.ref l] S) Q E := by
  have ob := h.ob
  have wi := h.wi
  have a8 := sz_le w
  have a9 := w.wn.ct0
  have hn : (v.ct.toNat : Int) = v.ct := Int.toNat_of_nonneg a9
  refine rs_fn ?_
  unfold G_View___len__
  refine ot_seq ?_
  walk_at "pv"
  rw [hc]
  refine if_f ?_
  walk_at "pv"
  refine rs_comp ?_
  walk_at "pv"
  refine ⟨_, rfl, by omega, ?_⟩
  refine ⟨by rw [rng_len]; omega, _, _, loopC_pure (k := none) (S := S) some trivial _ (fun d hd => ?_), fun S3 f3 g3 l3 => ?_⟩
  · exact ⟨_, rfl, .inr ⟨d, rfl, rfl, rfl⟩⟩
  · walk_at "pv"
    have e0 : ((List.filterMap some (rngD 0 v.ct.toNat)).length : Int) = v.ct := by rw [List.filterMap_some, rng_len]; exact hn
    rw [e0]
    exact q S3 f3
theorem give_ok {i x : Int} (h : VA S l v) (c : Ce S v.lc L bs) (w : VI L v) (hL : L ≤ 100000) (h0 : 0 ≤ i) (h1 : i < v.ct) (hx : 0 ≤ x) (q : ∀ S', Fr [v.lc] S S' → Ce S' v.lc L (givB bs (plc v.st v.sp v.sz i) x) → Q .non S') : Rs (F_View_give [.ref l, .int i, .int x] S) Q E := by
  have b1 := w.in_ _ h0 h1
  have a8 := sz_le w
  have hll := lt_of h.ob
  have hlc := lt_of c.at_
  have hne : l ≠ v.lc := by rintro e; have := h.ob; rw [e, c.at_] at this; cases this
  have ob := h.ob
  refine rs_fn ?_
  unfold G_View_give
  walk_at "pv"
  refine places_ok h w hL h0 h1 fun S1 f1 g1 l1 => ?_
  refine .inr (.inl ⟨_, _, rfl, g1, ?_⟩)
  generalize hrow : plc v.st v.sp v.sz i = row at *
  have hmem : ∀ p ∈ row, 0 ≤ p ∧ p < bs.length := fun p hp => by rw [← hrow] at hp; have := plc_mem hp; have := c.len; omega
  refine loop_inv (fun n e S' => Fr [v.lc] S S' ∧ S'[S.length]? = some (.lst (row.map D.int)) ∧ ∃ (z : Option Sl), e = [some (.v (.ref l)), some (.v (.int i)), some (.v (.int x)), some (.v (.int ((row.take n).foldl givS (bs, x)).2)), z] ∧ S'[v.lc]? = some (.lst (((row.take n).foldl givS (bs, x)).1.map D.int)))
    ⟨f1.nil, g1, _, rfl, f1.g0 c.at_⟩ (fun _ _ _ hh => hh.2.1) ?_ ?_
  · rintro n d e S2 hd ⟨F, g2, z, rfl, g3⟩
    rw [List.getElem?_map] at hd
    obtain ⟨p, hp, rfl⟩ := Option.map_eq_some_iff.mp hd
    have hn := (List.getElem?_eq_some_iff.mp hp).1
    have hm := hmem p (List.mem_of_getElem? hp)
    have ob2 : S2[l]? = some (VOb v) := F.get (by simp; exact hne) h.ob
    have hy := givS_nn (row := row.take n) (a := (bs, x)) hx
    have hl2 := givS_len (row := row.take n) (a := (bs, x))
    have et : (row.take (n + 1)).foldl givS (bs, x) = givS ((row.take n).foldl givS (bs, x)) p := by rw [List.take_add_one, hp, List.foldl_append]; rfl
    rw [et]
    generalize (row.take n).foldl givS (bs, x) = a at *
    refine ⟨_, rfl, ?_⟩
    walk_at "pv"
    refine ex_setL g3 (j := p.toNat) (by unfold ixN; rw [List.length_map, if_pos (by omega), if_pos (by simp only at hl2; omega)]) fun S3 f3 g4 l4 => ?_
    walk_at "pv"
    refine rs_shr (by decide) ?_
    walk_at "pv"
    refine ⟨F.trans f3, f3.get (by simp; omega) g2, _, rfl, ?_⟩
    rw [g4, and255 hy, ← List.map_set]
    rfl
  · rintro e S2 ⟨F, g2, z, rfl, g3⟩
    rw [List.length_map, List.take_length] at g3
    exact q S2 F ⟨g3, by rw [givB_len]; exact c.len, givB_by c.by_⟩
end
local macro_rules | `(tactic| walk_at "pv1") => `(tactic| first | (with_reducible refine rs_prop ?_) | (with_reducible refine rs_sl3 ?_) | (with_reducible refine ot_cutT ?_) | ((with_reducible apply dic_c); assumption))
def topV (sz : Int) : Int := if sz = 1 then 255 else if sz = 2 then 65535 else 4294967295
theorem lk_top {sz : Int} (h : szOk sz) : lkI sz [(1, 255), (2, 65535), (4, 4294967295)] = some (topV sz) := by
  rcases h with rfl | rfl | rfl <;> rfl
theorem rows_get {st sp ct sz : Int} {i : Nat} (h : (i : Int) < ct) : (rowsOf st sp ct sz).getD i [] = plc st sp sz (i : Int) := by
  unfold rowsOf
  rw [List.getD_eq_getElem?_getD, List.getElem?_map, List.getElem?_range (by omega)]
  rfl
section
variable {S : Sto} {Q : D → Sto → Prop} {E : ErP} {l m lc lo s : Nat} {ds os : List D} {v u : Vw} {L L2 : Int} {bs bs2 : List Int}
theorem alive_ok (h : VA S l v) (q : Q (.bl (!v.cl)) S) : Rs (F_View_alive [.ref l] S) Q E := by
  have ob := h.ob
  refine rs_fn ?_
  unfold G_View_alive
  walk_at "pv"
  exact q
theorem index_ok {i : Int} (h : VA S l v) (q : -v.ct ≤ i → i < v.ct → Q (.int (if i < 0 then i + v.ct else i)) S) (qe : ¬ (-v.ct ≤ i ∧ i < v.ct) → E 4 (some [("index", .int i)]) S) : Rs (F_View_index_of [.ref l, .int i] S) Q E := by
  have ob := h.ob
  have wi := h.wi
  refine rs_fn ?_
  unfold G_View_index_of
  walk_at "pv"
  refine ot_seq ?_
  walk_at "pv"
  refine isint_lh (-v.ct) (v.ct - 1) i ?_
  by_cases hi : -v.ct ≤ i ∧ i ≤ v.ct - 1
  · rw [decide_eq_true hi]
    have q' := q hi.1 (by omega)
    walk_at "pvc"
    refine if_d (fun z => ?_) (fun z => ?_)
    · walk_at "pv"; rw [if_pos z] at q'; exact q'
    · walk_at "pv"; rw [if_neg z] at q'; exact q'
  · rw [decide_eq_false hi]
    walk_at "pv"
    exact ⟨_, rfl, qe (by omega)⟩
theorem setitem_ok {i x : Int} (h : VA S l v) (c : v.cl = false → v.lk = false → Ce S v.lc L bs ∧ VI L v) (hL : L ≤ 100000) (hz : szOk v.sz)
    (q : v.cl = false → v.lk = false → -v.ct ≤ i → i < v.ct → 0 ≤ x → x ≤ topV v.sz → ∀ d S', Fr [v.lc] S S' → Ce S' v.lc L (givB bs (plc v.st v.sp v.sz (if i < 0 then i + v.ct else i)) x) → Q d S')
    (qg : v.cl = true → E 7 none S) (ql : v.cl = false → v.lk = true → E 8 none S) (qe : v.cl = false → v.lk = false → ¬ (-v.ct ≤ i ∧ i < v.ct) → E 4 (some [("index", .int i)]) S)
    (qv : v.cl = false → v.lk = false → -v.ct ≤ i → i < v.ct → ¬ (0 ≤ x ∧ x ≤ topV v.sz) → E 9 (some [("value", .int x)]) S) : Rs (F_View___setitem__ [.ref l, .int i, .int x] S) Q E := by
  have ob := h.ob
  refine rs_fn ?_
  unfold G_View___setitem__
  walk_at "pv"
  refine check_ok h (fun hc => ?_) qg
  refine ot_seq ?_
  walk_at "pv"
  cases hk : v.lk with
  | true => refine if_t ?_; walk_at "pv"; exact ql hc hk
  | false =>
    refine if_f ?_
    walk_at "pv"
    refine index_ok h (fun h1 h2 => ?_) (qe hc hk)
    refine ot_seq ?_
    walk_at "pv"
    refine rs_tabI (lk_top hz) ?_
    walk_at "pv"
    refine isint_lh 0 (topV v.sz) x ?_
    by_cases hx : 0 ≤ x ∧ x ≤ topV v.sz
    · rw [decide_eq_true hx]
      walk_at "pvc"
      refine obj_c ob rfl ?_
      walk_at "pv"
      obtain ⟨cc, w⟩ := c hc hk
      refine give_ok h cc w hL (by split <;> omega) (by split <;> omega) hx.1 fun S' f g => ?_
      exact q hc hk h1 h2 hx.1 hx.2 _ S' f g
    · rw [decide_eq_false hx]
      walk_at "pv"
      exact ⟨_, rfl, qv hc hk h1 h2 hx⟩
end
section
variable {S : Sto} {Q : D → Sto → Prop} {E : ErP} {l m lc lo s : Nat} {ds os : List D} {v u : Vw} {L L2 : Int} {bs bs2 : List Int}
theorem listed_gone (h : VA S l v) (hc : v.cl = true) (qg : E 7 none S) : Rs (F_View_listed [.ref l] S) Q E := by
  have ob := h.ob
  refine rs_fn ?_
  unfold G_View_listed
  walk_at "pv"
  exact check_ok h (fun z => by rw [hc] at z; cases z) fun _ => qg
theorem storeview_ok (hs : StA S s lc lo) (hc : S[lc]? = some (.lst ds)) (ho : S[lo]? = some (.lst os)) (hl : os.length < 1000)
    (q : ∀ l lw S', Fr [lo] S S' → VA S' l ⟨lc, lw, lo, false, false, 0, 1, ds.length, 1⟩ → S'[lo]? = some (.lst (os ++ [.ref l])) → S.length ≤ l → Q (.ref l) S') : Rs (F_Store_view [.ref s] S) Q E := by
  refine rs_fn ?_
  unfold G_Store_view
  walk_at "pv"
  refine win_mk (by decide) (by omega) (.inl rfl) (by decide) fun S1 f1 g1 l1 => ?_
  have hs1 : StA S1 s lc lo := f1.g0 hs
  walk_at "pv"
  refine view_mk g1 (f1.g0 ho) (by omega) fun S2 f2 h2 g2 l2 => ?_
  exact q _ _ S2 (f1.nil.trans f2) h2 g2 (by omega)
theorem vsliced_ok {k : Int} {fi la o : Option Int} (h : VA S l v) (ho : S[v.lo]? = some (.lst os)) (hl : os.length < 1000) (w : WN v.st v.sp v.ct v.sz) (hk1 : o.getD 1 = k) (hk : k ≠ 0) (hk2 : -100 ≤ k ∧ k ≤ 100)
    (q : v.cl = false → ∀ l' lw S', Fr [v.lo] S S' → VA S' l' ⟨v.lc, lw, v.lo, v.lk, false, v.st + slB fi la k v.ct * v.sp, v.sp * k, slN fi la k v.ct, v.sz⟩ → S'[v.lo]? = some (.lst (os ++ [.ref l'])) → S.length ≤ l' → Q (.ref l') S') (qg : v.cl = true → E 7 none S) : Rs (F_View_sliced [.ref l, oD fi, oD la, oD o] S) Q E := by
  have ob := h.ob
  have wi := h.wi
  refine rs_fn ?_
  unfold G_View_sliced
  walk_at "pv"
  refine check_ok h (fun hc => ?_) qg
  walk_at "pv"
  refine ⟨⟨rfl, rfl⟩, ?_⟩
  refine wsliced_ok wi w hk1 hk hk2 fun lw S1 f1 g1 l1 => ?_
  have ob1 := f1.g0 ob
  walk_at "pv"
  refine view_mk g1 (f1.g0 ho) (by omega) fun S2 f2 h2 g2 l2 => ?_
  exact q hc _ _ S2 (f1.nil.trans f2) h2 g2 f1.len
theorem vcast_ok {nw : Int} (h : VA S l v) (ho : S[v.lo]? = some (.lst os)) (hl : os.length < 1000) (w : WN v.st v.sp v.ct v.sz) (h2 : szOk nw)
    (q : v.cl = false → castOk v.sp v.ct v.sz nw → ∀ l' lw S', Fr [v.lo] S S' → VA S' l' ⟨v.lc, lw, v.lo, v.lk, false, v.st, nw, v.ct * v.sz / nw, nw⟩ → S'[v.lo]? = some (.lst (os ++ [.ref l'])) → S.length ≤ l' → Q (.ref l') S')
    (qg : v.cl = true → E 7 none S) (qe : v.cl = false → ¬ castOk v.sp v.ct v.sz nw → ∀ S', Fr [] S S' → E 3 none S') : Rs (F_View_cast [.ref l, .int nw] S) Q E := by
  have ob := h.ob
  have wi := h.wi
  refine rs_fn ?_
  unfold G_View_cast
  walk_at "pv"
  refine check_ok h (fun hc => ?_) qg
  walk_at "pv"
  refine wrecast_ok wi w.sz0 h2 ⟨w.ct0, w.ct1⟩ (fun ok lw S1 f1 g1 l1 => ?_) (qe hc)
  have ob1 := f1.g0 ob
  walk_at "pv"
  refine view_mk g1 (f1.g0 ho) (by omega) fun S2 f2 h2 g2 l2 => ?_
  exact q hc ok _ _ S2 (f1.nil.trans f2) h2 g2 f1.len
/-- the views that are lent, at lo; cl tells which are closed -/
structure Le (S : Sto) (lo : Nat) (vs : List Nat) (cl : Nat → Bool) : Prop where
  at_ : S[lo]? = some (.lst (vs.map D.ref))
  all : ∀ x ∈ vs, ∃ w, VA S x w ∧ w.cl = cl x
  len : vs.length ≤ 100
theorem Le.f0 {S' : Sto} {vs : List Nat} {cl : Nat → Bool} (h : Le S lo vs cl) (f : Fr [] S S') : Le S' lo vs cl := ⟨f.g0 h.at_, fun x hx => let ⟨w, h1, h2⟩ := h.all x hx; ⟨w, h1.f0 f, h2⟩, h.len⟩
def opens (vs : List Nat) (cl : Nat → Bool) : Nat := (vs.filter fun x => !cl x).length
theorem lent_ok (hs : StA S s lc lo) {vs : List Nat} {cl : Nat → Bool} (h : Le S lo vs cl) (q : ∀ S', Fr [] S S' → Q (.int (opens vs cl)) S') : Rs (F_Store_lent [.ref s] S) Q E := by
  refine rs_fn ?_
  unfold G_Store_lent
  walk_at "pv"
  refine rs_comp ?_
  walk_at "pv"
  refine .inr (.inl ⟨_, _, rfl, h.at_, ?_⟩)
  refine ⟨by rw [List.length_map]; have := h.len; omega, ?_⟩
  refine ⟨_, _, loopC_pure (k := some (lo, .lst (vs.map D.ref))) (S := S) (fun d => match d with | .ref x => if cl x = true then none else some d | _ => none) h.at_ _ (fun d hd => ?_), fun S3 f3 g3 l3 => ?_⟩
  · obtain ⟨x, hx, rfl⟩ := List.mem_map.mp hd
    obtain ⟨w, hw, hcl⟩ := h.all x hx
    have ow := hw.ob
    refine ⟨_, rfl, ?_⟩
    have et : (bNot (bE (eU (fldD cs_closed "closed") (eV 1)))) ((wipeE (envS 2 [.ref s]) [1]).set 1 (some (.v (.ref x)))) S = .ok (!w.cl) S := by
      have : Rs ((bNot (bE (eU (fldD cs_closed "closed") (eV 1)))) ((wipeE (envS 2 [.ref s]) [1]).set 1 (some (.v (.ref x)))) S) (fun b S' => b = (!w.cl) ∧ S' = S) noE := by
        walk_at "pv"
        exact ⟨rfl, rfl⟩
      obtain ⟨b, S', e1, e2, e3⟩ := this.ok
      rw [e1, e2, e3]
    rw [hcl] at et
    cases hc : cl x with
    | true => exact .inl ⟨by simp [hc], by rw [et, hc]; rfl⟩
    | false => exact .inr ⟨.ref x, by simp [hc], by rw [et, hc]; rfl, rfl⟩
  · have e1 : ∀ vs : List Nat, (List.filterMap (fun d => match d with | .ref x => if cl x = true then none else some d | _ => none) (vs.map D.ref)).length = opens vs cl := by
      intro vs
      unfold opens
      induction vs with
      | nil => rfl
      | cons x r ih =>
        rw [List.map_cons]
        cases hc : cl x with
        | true => simp [hc]; simpa using ih
        | false => simp [hc]; simpa using ih
    walk_at "pv"
    rw [e1]
    exact q _ f3
theorem free_ok (hs : StA S s lc lo) {vs : List Nat} {cl : Nat → Bool} (h : Le S lo vs cl) (q : opens vs cl = 0 → ∀ S', Fr [] S S' → Q .non S') (qe : 0 < opens vs cl → ∀ S', Fr [] S S' → E 6 none S') : Rs (F_Store_check_free [.ref s] S) Q E := by
  refine rs_fn ?_
  unfold G_Store_check_free
  walk_at "pv"
  refine lent_ok hs h fun S' f => ?_
  walk_at "pv"
  refine if_d (fun z => ?_) (fun z => ?_)
  · walk_at "pv"
    exact qe (by omega) S' f
  · walk_at "pv"
    exact q (by omega) S' f
end
section
variable {S : Sto} {Q : D → Sto → Prop} {E : ErP} {l m lc lo s : Nat} {ds os : List D} {v u : Vw} {L L2 : Int} {bs bs2 : List Int}
theorem storelisted_ok (hs : StA S s lc lo) (hc : S[lc]? = some (.lst ds)) (q : ∀ S', Fr [] S S' → S'[S.length]? = some (.lst ds) → S'.length = S.length + 1 → Q (.ref S.length) S') : Rs (F_Store_listed [.ref s] S) Q E := by
  refine rs_fn ?_
  unfold G_Store_listed
  walk_at "pv"
  exact rs_listL hc q
theorem grow_ok {i : Int} (hs : StA S s lc lo) (hcs : S[lc]? = some (.lst (bs.map D.int))) (hz : bs.length ≤ 10000) (hi : i ≤ 1000) {vs : List Nat} {cl : Nat → Bool} (hle : Le S lo vs cl)
    (q : (i ≤ 0 ∨ opens vs cl = 0) → ∀ d S', Fr [lc] S S' → S'[lc]? = some (.lst ((bs ++ List.replicate i.toNat 0).map D.int)) → Q d S') (qh : 0 < i → 0 < opens vs cl → ∀ S', Fr [] S S' → E 6 none S') : Rs (F_Store_grow [.ref s, .int i] S) Q E := by
  refine rs_fn ?_
  unfold G_Store_grow
  walk_at "pv"
  refine if_d (fun z => ?_) (fun z => ?_)
  · walk_at "pv"
    refine free_ok hs hle (fun ho S3 f3 => ?_) (fun ho S3 f3 => qh z ho S3 f3)
    have hs3 : StA S3 s lc lo := f3.g0 hs
    have hc3 : S3[lc]? = some (.lst (bs.map D.int)) := f3.g0 hcs
    walk_at "pv"
    refine rs_mkL fun S4 f4 g4 l4 => ?_
    walk_at "pv"
    refine rs_mulL g4 (by omega) (by simp; omega) fun S5 f5 g5 l5 => ?_
    rw [rep_one] at g5
    walk_at "pv"
    refine rs_extend (f5.g0 (f4.g0 hc3)) g5 (by simp; omega) fun S6 f6 g6 l6 => ?_
    exact q (.inr ho) _ S6 (((f3.trans f4).trans f5).nil.trans f6) (by rw [g6]; simp)
  · walk_at "pv"
    exact q (.inl (by omega)) _ S Fr.refl (by rw [hcs, show i.toNat = 0 by omega]; simp)
end
/-- lists of rows: none of their objects is among M -/
structure RwA (M : List Nat) (S : Sto) (lcs : Nat) (rows : List (List Int)) (ps : List Nat) : Prop where
  at_ : S[lcs]? = some (.lst (ps.map D.ref))
  len : ps.length = rows.length
  row : ∀ (j p : Nat), ps[j]? = some p → S[p]? = some (.lst ((rows.getD j []).map D.int))
  out : lcs ∉ M ∧ ∀ p ∈ ps, p ∉ M
theorem RwA.fr {M L : List Nat} {S S' : Sto} {lcs : Nat} {rows : List (List Int)} {ps : List Nat} (h : RwA M S lcs rows ps) (f : Fr L S S') (hL : ∀ x ∈ L, x ∈ M) : RwA M S' lcs rows ps :=
  ⟨f.get (fun z => h.out.1 (hL _ z)) h.at_, h.len, fun j p hp => f.get (fun z => h.out.2 p (List.mem_of_getElem? hp) (hL _ z)) (h.row j p hp), h.out⟩
theorem plc_slice {st sp sz k b j : Int} : plc (st + b * sp) (sp * k) sz j = plc st sp sz (b + k * j) := by
  unfold plc
  refine List.map_congr_left fun x _ => ?_
  rw [Int.add_mul, Int.mul_comm sp k, ← Int.mul_assoc, Int.mul_comm j k]
  omega
theorem RwA.slice {M ps : List Nat} {S : Sto} {lcs : Nat} {st sp ct sz k : Int} {f l o : Option Int} (h : RwA M S lcs (rowsOf st sp ct sz) ps) (c0 : 0 ≤ ct) (ho : o.getD 1 = k) (hk : k ≠ 0) :
    ∃ ps', pickD (ps.map D.ref) f l o = ps'.map D.ref ∧ ∀ S' lcs', Fr [] S S' → S'[lcs']? = some (.lst (ps'.map D.ref)) → lcs' ∉ M → RwA M S' lcs' (rowsOf (st + slB f l k ct * sp) (sp * k) (slN f l k ct) sz) ps' := by
  have hl := h.len
  rw [rows_len] at hl
  have hct : ((ct.toNat : Nat) : Int) = ct := Int.toNat_of_nonneg c0
  have e1 : ps.map D.ref = (List.range ct.toNat).map fun j => D.ref (ps.getD j 0) := by
    apply List.ext_getElem?
    intro i
    rw [List.getElem?_map, List.getElem?_map]
    by_cases hi : i < ct.toNat
    · rw [List.getElem?_range hi, List.getElem?_eq_getElem (by omega)]
      simp [List.getD_eq_getElem?_getD, List.getElem?_eq_getElem (show i < ps.length by omega)]
    · rw [List.getElem?_eq_none (by omega), List.getElem?_eq_none (by simp; omega)]
      rfl
  have e2 : pickD (ps.map D.ref) f l o = pickD (ps.map D.ref) f l (some k) := by
    cases o with
    | none => subst ho; rfl
    | some i => subst ho; rfl
  refine ⟨(List.range (slN f l k ct).toNat).map fun (j : Nat) => ps.getD (slB f l k ct + k * (j : Int)).toNat 0, ?_, fun S' lcs' fr g out => ⟨g, by rw [rows_len]; simp, fun j p hp => ?_, out, fun p hp => ?_⟩⟩
  · rw [e2, e1, pick_range (α := Nat) hk, hct, List.map_map]
    rfl
  · rw [List.getElem?_map] at hp
    obtain ⟨i, hi, rfl⟩ := Option.map_eq_some_iff.mp hp
    obtain ⟨h1, h2⟩ := List.getElem?_eq_some_iff.mp hi
    rw [List.length_range] at h1
    rw [List.getElem_range] at h2
    subst h2
    obtain ⟨j1, j2⟩ := slice_in (f := f) (l := l) (j := (j : Int)) hk c0 (by omega) (by omega)
    have hp2 : ps[(slB f l k ct + k * (j : Int)).toNat]? = some (ps.getD (slB f l k ct + k * (j : Int)).toNat 0) := by
      rw [List.getD_eq_getElem?_getD, List.getElem?_eq_getElem (show (slB f l k ct + k * (j : Int)).toNat < ps.length by omega)]; rfl
    have hr := h.row _ _ hp2
    rw [rows_get (by omega), show (((slB f l k ct + k * (j : Int)).toNat : Nat) : Int) = slB f l k ct + k * (j : Int) by omega] at hr
    rw [rows_get (by omega), plc_slice]
    exact fr.g0 hr
  · obtain ⟨i, hi, rfl⟩ := List.mem_map.mp hp
    have hi := List.mem_range.mp hi
    obtain ⟨j1, j2⟩ := slice_in (f := f) (l := l) (j := (i : Int)) hk c0 (by omega) (by omega)
    refine h.out.2 _ ?_
    rw [List.getD_eq_getElem?_getD, List.getElem?_eq_getElem (show (slB f l k ct + k * (i : Int)).toNat < ps.length by omega)]
    exact List.getElem_mem _
theorem pow4 : ∀ j : Nat, j ≤ 30 → (4 : Int) ^ (j + 2) < 10 ^ 30 := by decide
theorem ab_le {x k b : Int} (h : ab x ≤ b) (h1 : -4 ≤ k) (h2 : k ≤ 4) : ab (x * k) ≤ b * 4 := by
  rw [ab_nat] at h ⊢
  rw [Int.natAbs_mul]
  have : k.natAbs ≤ 4 := by omega
  have h3 : x.natAbs * k.natAbs ≤ x.natAbs * 4 := Nat.mul_le_mul_left _ this
  omega
theorem WN.slice {st sp ct sz k : Int} {fi la : Option Int} {j : Nat} (w : WN st sp ct sz) (hk : k ≠ 0) (k1 : -4 ≤ k) (k2 : k ≤ 4) (hs : ab sp ≤ 4 ^ (j + 1)) (hj : j ≤ 30) : WN (st + slB fi la k ct * sp) (sp * k) (slN fi la k ct) sz ∧ ab (sp * k) ≤ 4 ^ (j + 1 + 1) ∧ slN fi la k ct * sz ≤ ct * sz := by
  have h1 := slN_nn (f := fi) (l := la) (c := ct) hk
  have h2 := slN_le (f := fi) (l := la) hk w.ct0
  have h3 := w.ct1
  have h4 := ab_le hs k1 k2
  have h5 : ab (sp * k) ≤ 4 ^ (j + 1 + 1) := by rw [Int.pow_succ (m := 4) (n := j + 1)]; exact h4
  have h6 := pow4 j hj
  have h7 : ab (sp * k) < 10 ^ 30 := Int.lt_of_le_of_lt h5 h6
  have h8 := w.sz0
  refine ⟨⟨Int.mul_ne_zero w.sp0 hk, h1, by omega, w.sz0, Int.le_trans w.le (ab_mul hk), ?_⟩, h5, Int.mul_le_mul_of_nonneg_right h2 (by unfold szOk at h8; omega)⟩
  rw [ab_nat] at h7
  omega
theorem VI.slice {L st sp ct sz k : Int} {lc lw lo lw' : Nat} {lk lk' cl cl' : Bool} {fi la : Option Int} {j : Nat} (w : VI L ⟨lc, lw, lo, lk, cl, st, sp, ct, sz⟩) (hk : k ≠ 0) (k1 : -4 ≤ k) (k2 : k ≤ 4) (hs : ab sp ≤ 4 ^ (j + 1)) (hj : j ≤ 30) : VI L ⟨lc, lw', lo, lk', cl', st + slB fi la k ct * sp, sp * k, slN fi la k ct, sz⟩ := by
  have wn : WN st sp ct sz := w.wn
  obtain ⟨h1, h2, h3⟩ := wn.slice (fi := fi) (la := la) hk k1 k2 hs hj
  refine ⟨h1, fun i i0 i1 => ?_, Int.le_trans h3 w.many⟩
  have h4 := slice_in hk wn.ct0 i0 i1
  have h5 := w.in_ (slB fi la k ct + k * i) h4.1 h4.2
  have h6 : (slB fi la k ct + k * i) * sp = slB fi la k ct * sp + i * (sp * k) := by
    rw [Int.add_mul, Int.mul_comm sp k, ← Int.mul_assoc i k sp, Int.mul_comm i k]
  simp only at h5 ⊢
  rw [h6] at h5
  omega
theorem WN.cast {st sp ct sz nw : Int} (w : WN st sp ct sz) (h2 : szOk nw) (hm : ct * sz ≤ 10000) : WN st nw (ct * sz / nw) nw ∧ ct * sz / nw * nw ≤ ct * sz := by
  have h1 := w.sz0
  have n1 : 1 ≤ nw ∧ nw ≤ 4 := by unfold szOk at h2; omega
  have z1 : 1 ≤ sz ∧ sz ≤ 4 := by unfold szOk at h1; omega
  have c0 : 0 ≤ ct * sz := Int.mul_nonneg w.ct0 (by omega)
  have c1 := Int.ediv_nonneg c0 (show 0 ≤ nw by omega)
  have c2 : ct * sz / nw ≤ ct * sz := Int.ediv_le_self _ c0
  refine ⟨⟨by omega, c1, by omega, h2, by rw [ab_nat]; omega, by omega⟩, ?_⟩
  exact Int.ediv_mul_le _ (by omega)
theorem VI.cast {L st sp ct sz nw : Int} {lc lw lo lw' : Nat} {lk lk' cl cl' : Bool} (w : VI L ⟨lc, lw, lo, lk, cl, st, sp, ct, sz⟩) (h2 : szOk nw) (ok : castOk sp ct sz nw) : VI L ⟨lc, lw', lo, lk', cl', st, nw, ct * sz / nw, nw⟩ := by
  have wn : WN st sp ct sz := w.wn
  have hm : ct * sz ≤ 10000 := w.many
  obtain ⟨h1, h3⟩ := wn.cast h2 hm
  have n1 : 1 ≤ nw ∧ nw ≤ 4 := by unfold szOk at h2; omega
  have z1 := wn.sz0
  have z1 : 1 ≤ sz ∧ sz ≤ 4 := by unfold szOk at z1; omega
  have c0 := wn.ct0
  refine ⟨h1, fun i i0 i1 => ?_, Int.le_trans h3 hm⟩
  simp only at i1 ⊢
  have e1 : (i + 1) * nw ≤ ct * sz := Int.le_trans (Int.mul_le_mul_of_nonneg_right (by omega) (by omega)) h3
  have e2 : (i + 1) * nw = i * nw + nw := by rw [Int.add_mul, Int.one_mul]
  have e3 := Int.mul_nonneg i0 (show 0 ≤ nw by omega)
  have c1 : 1 ≤ ct := by
    rcases Int.lt_or_le 0 ct with h | h
    · omega
    · have : ct = 0 := by omega
      subst this
      rw [Int.zero_mul] at e1
      omega
  have q0 := w.in_ 0 (Int.le_refl 0) (show 0 < ct by omega)
  have q1 := w.in_ (ct - 1) (by omega) (show ct - 1 < ct by omega)
  simp only at q0 q1
  rw [Int.zero_mul] at q0
  have : st + ct * sz ≤ L := by
    by_cases hs : sp = sz
    · subst hs
      rw [Int.sub_mul, Int.one_mul] at q1
      omega
    · have : ct = 1 := by
        have := ok.1
        omega
      subst this
      omega
  omega
theorem rows_four {st sp ct sz : Int} (h : szOk sz) : ∀ r ∈ rowsOf st sp ct sz, r.length ≤ 4 := by
  intro r hr
  unfold rowsOf at hr
  obtain ⟨i, _, rfl⟩ := List.mem_map.mp hr
  rw [plc_len]
  unfold szOk at h
  omega
theorem rows_in {bs : List Int} {w : Vw} (vi : VI bs.length w) : ∀ r ∈ rowsOf w.st w.sp w.ct w.sz, r.length ≤ 4 ∧ ∀ x ∈ r, 0 ≤ x ∧ x < bs.length := by
  intro r hr
  refine ⟨rows_four vi.wn.sz0 r hr, fun x hx => ?_⟩
  unfold rowsOf at hr
  obtain ⟨i, hi, rfl⟩ := List.mem_map.mp hr
  have hi := List.mem_range.mp hi
  have := vi.in_ (i : Int) (by omega) (by omega)
  have := plc_mem hx
  omega
theorem RwA.ext {M M' : List Nat} {S : Sto} {lcs : Nat} {rows : List (List Int)} {ps : List Nat} (h : RwA M S lcs rows ps) (hx : ∀ x ∈ M', x ∈ M ∨ ∀ xs, S[x]? ≠ some (.lst xs)) : RwA M' S lcs rows ps :=
  ⟨h.at_, h.len, h.row, fun z => (hx _ z).elim h.out.1 fun n => n _ h.at_, fun p hp z => (hx _ z).elim (h.out.2 p hp) fun n => by obtain ⟨j, hj⟩ := List.mem_iff_getElem?.mp hp; exact n _ (h.row j p hj)⟩
theorem valB_cons {bs row : List Int} {p : Int} : valB bs (p :: row) = valB bs row * 256 + gB bs p := by
  unfold valB
  rw [List.reverse_cons, foldB_snoc]
theorem givB_cons {bs row : List Int} {p x : Int} : givB bs (p :: row) x = givB (bs.set p.toNat (x % 256)) row (x / 256) := rfl
theorem gB_set {bs : List Int} {p q x : Int} (h : p.toNat ≠ q.toNat) : gB (bs.set p.toNat x) q = gB bs q := by
  unfold gB
  rw [List.getD_eq_getElem?_getD, List.getD_eq_getElem?_getD, List.getElem?_set_ne h]
theorem gB_self {bs : List Int} {p x : Int} (h : p.toNat < bs.length) : gB (bs.set p.toNat x) p = x := by
  unfold gB
  rw [List.getD_eq_getElem?_getD, List.getElem?_set_self h]
  rfl
theorem gB_giv {row : List Int} : ∀ {bs : List Int} {x q : Int}, 0 ≤ q → (∀ p ∈ row, 0 ≤ p) → q ∉ row → gB (givB bs row x) q = gB bs q := by
  induction row with
  | nil => intro bs x q _ _ _; rfl
  | cons p r ih =>
    intro bs x q h0 hp hq
    have h1 : q ≠ p := fun z => hq (by simp [z])
    have h2 := hp p (by simp)
    rw [givB_cons, ih h0 (fun y hy => hp y (by simp [hy])) (fun z => hq (by simp [z])), gB_set (by omega)]
/-- the places of a cell -/
structure RowOk (L : Nat) (row : List Int) : Prop where
  nd : row.Nodup
  in_ : ∀ p ∈ row, 0 ≤ p ∧ p < L
theorem RowOk.tail {L : Nat} {p : Int} {row : List Int} (h : RowOk L (p :: row)) : RowOk L row ∧ p ∉ row ∧ 0 ≤ p ∧ p < L := by
  have := List.nodup_cons.mp h.nd
  exact ⟨⟨this.2, fun q hq => h.in_ q (by simp [hq])⟩, this.1, h.in_ p (by simp)⟩
theorem valB_giv {row : List Int} : ∀ {bs : List Int} {x : Int}, RowOk bs.length row → 0 ≤ x → x < 256 ^ row.length → valB (givB bs row x) row = x := by
  induction row with
  | nil =>
    intro bs x _ h0 h1
    have : x = 0 := by simp at h1; omega
    subst this
    rfl
  | cons p r ih =>
    intro bs x hr h0 h1
    obtain ⟨hr', hp, hp0, hpl⟩ := hr.tail
    have h2 : x / 256 < 256 ^ r.length := by
      rw [List.length_cons, Int.pow_succ] at h1
      exact Int.ediv_lt_of_lt_mul (by decide) h1
    rw [valB_cons, givB_cons, ih (by rw [List.length_set]; exact hr') (Int.ediv_nonneg h0 (by decide)) h2, gB_giv hp0 (fun y hy => (hr'.in_ y hy).1) hp, gB_self (by omega)]
    omega
theorem giv_valB {row : List Int} : ∀ {bs : List Int}, RowOk bs.length row → (∀ b ∈ bs, 0 ≤ b ∧ b ≤ 255) → givB bs row (valB bs row) = bs := by
  induction row with
  | nil => intro bs _ _; rfl
  | cons p r ih =>
    intro bs hr hb
    obtain ⟨hr', hp, hp0, hpl⟩ := hr.tail
    have hg := gB_by (p := p) hb
    have e1 : (valB bs r * 256 + gB bs p) % 256 = gB bs p := by omega
    have e2 : (valB bs r * 256 + gB bs p) / 256 = valB bs r := by omega
    have e3 : bs.set p.toNat (gB bs p) = bs := by
      unfold gB
      rw [List.getD_eq_getElem?_getD, List.getElem?_eq_getElem (show p.toNat < bs.length by omega)]
      exact List.set_getElem_self _
    rw [valB_cons, givB_cons, e1, e2, e3]
    exact ih hr' hb
theorem giv_zero {row : List Int} : ∀ {bs : List Int}, givB bs row 0 = row.foldl (fun b q => b.set q.toNat 0) bs := by
  induction row with
  | nil => intro bs; rfl
  | cons p r ih => intro bs; rw [givB_cons]; exact ih
theorem plc_ok {L : Nat} {st sp sz i : Int} (h : 0 ≤ st + i * sp ∧ st + i * sp + sz ≤ L) : RowOk L (plc st sp sz i) := by
  refine ⟨?_, fun p hp => ?_⟩
  · unfold plc
    rw [List.Nodup, List.pairwise_map]
    refine List.Pairwise.imp ?_ List.nodup_range
    intro a b h z
    exact h (by omega)
  · have := plc_mem hp
    omega
theorem top_pow {sz : Int} (h : szOk sz) : topV sz + 1 = 256 ^ sz.toNat := by
  rcases h with rfl | rfl | rfl <;> decide
theorem inV_mem {xs : List Int} {i : Int} (h : i ∈ xs) : inV (.int i) (xs.map V.int) = true := by
  unfold inV
  rw [List.any_eq_true]
  exact ⟨.int i, List.mem_map.mpr ⟨i, h, rfl⟩, by unfold eqV; simp⟩
theorem rs_inLx {S : Sto} {m : Nat} {xs : List Int} {i : Int} {Q : D → Sto → Prop} {E : ErP} (h : S[m]? = some (.lst (xs.map D.int))) (q : Q (.bl (inV (.int i) (xs.map V.int))) S) : Rs (dInD (.int i) (.ref m) S) Q E := by
  have e : inD (.int i) (.ref m) S = some (inV (.int i) (xs.map V.int)) := by
    unfold inD
    dsimp only
    rw [h]
    dsimp only
    rw [ints_sc]
    rfl
  unfold dInD; rw [e]; exact rs_ok q
/-- a slice of all cells has one at least -/
theorem slN_one' {k c : Int} (hk : k ≠ 0) (c1 : 1 ≤ c) : 1 ≤ slN none none k c := by
  by_cases h : 0 < k
  · have e1 : slB none none k c = 0 := slB_pos h (by omega)
    have e2 : slE none none k c = c := slE_pos h (by omega)
    rw [slN_pos h, e1, e2, if_pos (by omega)]
    have := Int.ediv_nonneg (show 0 ≤ c - 0 - 1 by omega) (show 0 ≤ k by omega)
    omega
  · have e1 : slB none none k c = c - 1 := slB_neg h (by omega)
    have e2 : slE none none k c = -1 := slE_neg h (by omega)
    rw [slN_neg (by omega), e1, e2, if_pos (by omega)]
    have := Int.ediv_nonneg (show 0 ≤ c - 1 - -1 - 1 by omega) (show 0 ≤ -k by omega)
    omega
theorem rs_isiO {S : Sto} {Q : D → Sto → Prop} {E : ErP} {C : Nat} {os : List Nat} {x : D} {k : Bool} (h : isiOwn C os x S = .ok (.bl k) S) (q : Q (.bl k) S) : Rs (isiOwn C os x S) Q E := by rw [h]; exact rs_ok q
theorem rs_eqLL {S : Sto} {l m : Nat} {xs ys : List Int} {Q : D → Sto → Prop} {E : ErP} (h1 : S[l]? = some (.lst (xs.map D.int))) (h2 : S[m]? = some (.lst (ys.map D.int))) (q : Q (.bl (decide (xs = ys))) S) : Rs (dEqX (.ref l) (.ref m) S) Q E := by unfold dEqX; rw [eqX_ints h1 h2]; exact rs_ok q
abbrev Vw.sh (v : Vw) : Vw := ⟨v.lc, v.lw, v.lo, v.lk, true, v.st, v.sp, v.ct, v.sz⟩
section
variable {S : Sto} {Q : D → Sto → Prop} {E : ErP} {l m : Nat} {v u : Vw} {L L2 : Int} {bs bs2 : List Int}
abbrev valsB (bs : List Int) (v : Vw) : List Int := (rowsOf v.st v.sp v.ct v.sz).map (valB bs)
theorem getitem_ok {i : Int} (h : VA S l v) (c : Ce S v.lc L bs) (w : VI L v) (hL : L ≤ 100000) (hc : v.cl = false) (h0 : 0 ≤ i) (h1 : i < v.ct) (q : ∀ S', Fr [] S S' → Q (.int (valB bs (plc v.st v.sp v.sz i))) S') : Rs (F_View___getitem__ [.ref l, .int i] S) Q E := by
  have ob := h.ob
  refine rs_fn ?_
  unfold G_View___getitem__
  walk_at "pv"
  refine check_ok h (fun _ => ?_) (fun z => by rw [hc] at z; cases z)
  walk_at "pv"
  refine index_ok h (fun _ _ => ?_) (fun z => absurd ⟨by omega, h1⟩ z)
  rw [if_neg (by omega)]
  walk_at "pv"
  exact value_ok h c w hL h0 h1 fun S' f => q S' f
theorem contains_ok {i : Int} (h : VA S l v) (c : Ce S v.lc L bs) (w : VI L v) (hL : L ≤ 100000) (hc : v.cl = false) (h0 : 0 ≤ i) (q : ∀ S', Fr [] S S' → Q (.bl (inV (.int i) ((valsB bs v).map V.int))) S') : Rs (F_View___contains__ [.ref l, .int i] S) Q E := by
  have ob := h.ob
  refine rs_fn ?_
  unfold G_View___contains__
  walk_at "pv"
  refine listed_ok h c w hL hc fun m S1 f1 g1 hm => ?_
  walk_at "pv"
  refine isint_ln 0 i ?_
  rw [decide_eq_true h0]
  refine ⟨_, rfl, fun _ => ?_, fun z => by cases z⟩
  walk_at "pv"
  refine rs_inLx g1 ?_
  exact q S1 f1
theorem eq_no {d : D} (h : VA S l v) (hd : (∃ i, d = .int i) ∨ ∃ m xs, d = .ref m ∧ S[m]? = some (.lst xs)) (q : Q (.bl false) S) : Rs (F_View___eq__ [.ref l, d] S) Q E := by
  have ob := h.ob
  refine rs_fn ?_
  unfold G_View___eq__
  refine ot_seq ?_
  rcases hd with ⟨i, rfl⟩ | ⟨m, xs, rfl, hm⟩
  · walk_at "pv"
    refine rs_isiO (k := false) rfl ?_
    walk_at "pvc"
    exact q
  · walk_at "pv"
    refine rs_isiO (k := false) (by unfold isiOwn D.kd; dsimp only; rw [hm]) ?_
    walk_at "pvc"
    exact q
theorem eq_view (h : VA S l v) (h' : VA S m u) (c : v.cl = false → u.cl = false → Ce S v.lc L bs ∧ VI L v ∧ Ce S u.lc L2 bs2 ∧ VI L2 u ∧ v.sz = u.sz) (hL : L ≤ 100000) (hL2 : L2 ≤ 100000) (qc : v.cl = true ∨ u.cl = true → Q (.bl false) S) (q : v.cl = false → u.cl = false → ∀ S', Fr [] S S' → Q (.bl (decide (valsB bs v = valsB bs2 u))) S') : Rs (F_View___eq__ [.ref l, .ref m] S) Q E := by
  have ob := h.ob
  have ob' := h'.ob
  have hi : isiOwn 14 io_os_View (.ref m) S = .ok (.bl true) S := by unfold isiOwn D.kd; dsimp only; rw [ob']; rfl
  refine rs_fn ?_
  unfold G_View___eq__
  refine ot_cut (fun e S' => S = S' ∧ v.cl = false ∧ u.cl = false ∧ e = envS 2 [.ref l, .ref m]) ?_ ?_
  · walk_at "pv"
    refine rs_isiO hi ?_
    walk_at "pvc"
    cases hc : v.cl with
    | true => walk_at "pvc"; exact qc (.inl hc)
    | false =>
      walk_at "pvc"
      cases hu : u.cl with
      | true => walk_at "pvc"; exact qc (.inr hu)
      | false => walk_at "pvc"; exact ⟨rfl, rfl, rfl, rfl⟩
  rintro e S' ⟨rfl, hc, hu, rfl⟩
  obtain ⟨c1, w1, c2, w2, hs⟩ := c hc hu
  walk_at "pv"
  rw [hs]
  refine if_y rfl ?_
  walk_at "pv"
  refine listed_ok h c1 w1 hL hc fun a S1 f1 g1 ha => ?_
  have ob1 := f1.g0 ob'
  walk_at "pv"
  refine listed_ok (h'.f0 f1) (c2.f0 f1) w2 hL2 hu fun b S2 f2 g2 hb => ?_
  walk_at "pv"
  refine rs_eqLL (f2.g0 g1) g2 ?_
  exact q hc hu S2 (f1.trans f2)
end
section
variable {S : Sto} {Q : D → Sto → Prop} {E : ErP} {m m' lb lcs dv : Nat} {bs row xs : List Int} {M ps : List Nat} {rows : List (List Int)} {sz st : Int} {lk gone : Bool}
theorem rs_neB {a b : Bool} (q : Q (.bl (!(a == b))) S) : Rs (dNeX (.bl a) (.bl b) S) Q E := by
  have : eqX (.bl a) (.bl b) S = some (a == b) := by cases a <;> cases b <;> rfl
  unfold dNeX; rw [this]; exact rs_ok q
theorem all_bl : ∀ ks : List Bool, allSome D.bool (ks.map D.bl) = some ks
  | [] => rfl
  | k :: ks => by rw [List.map_cons, allSome, all_bl ks]; rfl
theorem rs_allB {l : Nat} {ks : List Bool} (h : S[l]? = some (.lst (ks.map D.bl))) (q : Q (.bl (ks.all id)) S) : Rs (bAll [.ref l] S) Q E := by
  unfold bAll; dsimp only; rw [h]; dsimp only; rw [all_bl]; exact rs_ok q
theorem same_int {n : Nat} {i : Int} (q : Q (.bl true) S) : Rs (FR__law_same (n + 1) [.int i, .int i] S) Q E := by
  unfold FR__law_same
  refine rs_fn ?_
  refine ot_seq ?_
  walk_at "pv"
  refine ot_seq ?_
  walk_at "pvc"
  rw [decide_eq_true (rfl : i = i)]
  exact q
theorem same_ints {n : Nat} (h1 : S[m]? = some (.lst (xs.map D.int))) (h2 : S[m']? = some (.lst (xs.map D.int))) (hl : xs.length ≤ 100000) (q : ∀ S', Fr [] S S' → Q (.bl true) S') : Rs (FR__law_same (n + 2) [.ref m, .ref m'] S) Q E := by
  unfold FR__law_same
  refine rs_fn ?_
  have k1 : (D.ref m).kd S = some (.ty .list) := by unfold D.kd; dsimp only; rw [h1]
  have k2 : (D.ref m').kd S = some (.ty .list) := by unfold D.kd; dsimp only; rw [h2]
  refine ot_seq ?_
  (repeat' (first | walk_at "pv1" | (refine rs_isi_t (by assumption) rfl ?_) | (refine rs_isi_f (by assumption) rfl ?_) | (refine rs_neB ?_) | (refine if_f ?_) | (refine if_t ?_) | (refine if_ny rfl ?_) | (refine ot_seq ?_)))
  refine rs_comp ?_
  walk_at "pv"
  rw [List.length_map]
  refine ⟨_, rfl, by omega, ?_⟩
  refine ⟨by rw [rng_len]; omega, ?_⟩
  obtain ⟨zs, T, e1, F, e2⟩ := loopC_inv (k := none) (p := .nm 2) (tb := bYes) (a := eF 2 (FR__law_same (n + 1)) (aC (eB dIdx (eV 0) (eV 2)) (aC (eB dIdx (eV 1) (eV 2)) aN))) (e := wipeE (envS 3 [.ref m, .ref m']) [2]) (rngD 0 (xs.length : Int).toNat)
    (fun j ys T => Fr [] S T ∧ ys = (List.replicate j true).map D.bl) 0 [] S ⟨Fr.refl, rfl⟩ (fun _ _ _ _ => trivial) (by
    rintro j d zs T hd ⟨F, rfl⟩
    obtain ⟨rfl, hj⟩ := rng_get hd
    have hj2 : j < xs.length := by omega
    have hg : (xs.map D.int)[(0 + (j : Int)).toNat]? = some (.int xs[j]) := by
      rw [show (0 + (j : Int)).toNat = j by omega, List.getElem?_map, List.getElem?_eq_getElem hj2]; rfl
    refine ⟨_, rfl, ?_⟩
    refine rs_ok ⟨fun _ => ?_, fun z => by cases z⟩
    walk_at "pv"
    refine rs_ixL (F.g0 h1) (atI_int (by omega) hg) ?_
    walk_at "pv"
    refine rs_ixL (F.g0 h2) (atI_int (by omega) hg) ?_
    walk_at "pv"
    refine same_int ?_
    exact ⟨F, by rw [Nat.zero_add, List.replicate_succ']; simp⟩)
  refine ⟨zs, T, e1, fun S3 f3 g3 l3 => ?_⟩
  rw [List.nil_append] at e2
  subst e2
  walk_at "pv"
  refine rs_allB g3 ?_
  walk_at "pv"
  have := q S3 (F.trans f3)
  simpa using this
end
theorem ot_tryOnly {tbl : Nat → Option Bool} {gb gs : Sx} {e : Pu.Env} {S : Sto} {N : NxP} {R : RtP} {B C : NxP} {X : XxP}
    (h : Ot (gb e S) N R B C (fun Z x e1 S1 => (tbl Z = some true ∧ Ot (gs e1 S1) N R B C (fun _ _ _ _ => False)) ∨ (tbl Z = some false ∧ X Z x e1 S1))) : Ot (sTryOnly tbl gb gs e S) N R B C X := by
  unfold sTryOnly
  generalize gb e S = oo at h
  cases oo with
  | er Z x e1 S1 =>
    unfold Ot at h
    dsimp only at h ⊢
    rcases h with ⟨h1, h2⟩ | ⟨h1, h2⟩
    · rw [h1]
      dsimp only
      generalize gs e1 S1 = o2 at h2
      cases o2 <;> (unfold Out.quiet Ot; first | exact h2 | exact h2.elim)
    · rw [h1]
      unfold Ot
      exact h2
  | _ => unfold Ot at h ⊢; exact h
section
variable {S : Sto} {Q : D → Sto → Prop} {E : ErP} {l p : Nat} {v : Vw} {L : Int} {bs row : List Int}
theorem lawval_ok (hr : S[p]? = some (.lst ((row.map (gB bs)).map D.int))) (by_ : ∀ b ∈ bs, 0 ≤ b ∧ b ≤ 255) (h4 : row.length ≤ 4) (q : Q (.int (valB bs row)) S) : Rs (F__law_value [.ref p] S) Q E := by
  refine rs_fn ?_
  unfold G__law_value
  walk_at "pv"
  refine ot_cut (fun e S' => S' = S ∧ ∃ x, e = [some (.v (.ref p)), some (.v (.int (valB bs row))), x]) ?_ ?_
  · walk_at "pv"
    refine ⟨_, rfl, by rw [List.length_map, List.length_map]; omega, ?_⟩
    rw [List.length_map, List.length_map]
    refine loop_inv (fun j e S' => S' = S ∧ ∃ r : Int, (0 ≤ r ∧ r < 256 ^ j) ∧ r = foldB bs (row.reverse.take j) ∧ ∃ x, e = [some (.v (.ref p)), some (.v (.int r)), x]) ⟨rfl, 0, by simp, rfl, _, rfl⟩ (fun _ _ _ _ => trivial) ?_ ?_
    · rintro j d e S' hd ⟨rfl, r, hr2, er, x, rfl⟩
      obtain ⟨rfl, hj⟩ := rng_get hd
      have hj' : j < row.length := by omega
      have hk : row.length - 1 - j < row.length := by omega
      have hb2 := gB_by (p := row[row.length - 1 - j]) by_
      have hp5 := pow256 (by omega) hr2.1 hr2.2 hb2.1 hb2.2
      have hrow : ((row.map (gB bs)).map D.int)[((row.length : Int) - 1 - (0 + (j : Nat))).toNat]? = some (.int (gB bs row[row.length - 1 - j])) := by
        rw [show ((row.length : Int) - 1 - (0 + (j : Nat))).toNat = row.length - 1 - j by omega, List.getElem?_map, List.getElem?_map, List.getElem?_eq_getElem hk]; rfl
      refine ⟨_, rfl, ?_⟩
      walk_at "pv"
      rw [List.length_map, List.length_map]
      refine rs_ixL hr (atI_int (by omega) hrow) ?_
      walk_at "pv"
      refine ⟨rfl, _, ⟨hp5.1, hp5.2.1⟩, ?_, _, rfl⟩
      rw [List.take_add_one, List.getElem?_reverse hj', List.getElem?_eq_getElem hk, er]
      exact foldB_snoc.symm
    · rintro e S' ⟨rfl, r, hr2, er, x, rfl⟩
      refine ⟨rfl, x, ?_⟩
      rw [er, rng_len, show ((row.length : Int)).toNat = row.length by omega, List.take_of_length_le (by rw [List.length_reverse]; exact Nat.le_refl _)]
      rfl
  · rintro e S' ⟨rfl, x, rfl⟩
    walk_at "pv"
    exact q
theorem flag_ok {a b : Bool} (h : a = b) (q : Q (.bl true) S) : Rs (F__law_flag [.bl a, .bl b] S) Q E := by
  subst h
  have eqb : ∀ {R : D → Sto → Prop}, R (.bl true) S → Rs (dEqX (.bl a) (.bl a) S) R E := fun r => by
    unfold dEqX eqX
    cases a <;> exact rs_ok r
  refine rs_fn ?_
  unfold G__law_flag
  walk_at "pv"
  exact eqb q
theorem gone_ok (h : VA S l v) (c : v.cl = false → Ce S v.lc L bs ∧ VI L v) (hL : L ≤ 100000) (q : ∀ S', Fr [] S S' → Q (.bl v.cl) S') : Rs (F__law_gone [.ref l] S) Q E := by
  have ob := h.ob
  refine rs_fn ?_
  unfold G__law_gone
  walk_at "pv"
  refine ot_cut (fun e S' => Fr [] S S' ∧ e = [some (.v (.ref l)), some (.v (.bl v.cl))]) ?_ ?_
  · refine ot_tryOnly ?_
    walk_at "pv"
    cases hc : v.cl with
    | true =>
      refine listed_gone h hc (.inl ⟨rfl, ?_⟩)
      walk_at "pv"
      exact ⟨Fr.refl, rfl⟩
    | false =>
      obtain ⟨c1, w1⟩ := c hc
      refine listed_ok h c1 w1 hL hc fun m S1 f1 g1 hm => ?_
      exact ⟨f1, rfl⟩
  rintro e S1 ⟨f1, rfl⟩
  have h1 := h.f0 f1
  have ob1 := h1.ob
  walk_at "pv"
  refine ⟨fun z => ?_, fun z => by rw [← z]; exact q S1 f1⟩
  walk_at "pv"
  refine alive_ok h1 ?_
  refine ⟨_, rfl, ?_⟩
  rw [Bool.not_not]
  exact q S1 f1
theorem during_0 (h : VA S l v) (c : Ce S v.lc L bs) (w : VI L v) (hL : L ≤ 100000) (hc : v.cl = false) (hk : v.lk = false) (c1 : 1 ≤ v.ct) (q : ∀ m S', Fr [v.lc, l] S S' → Ce S' v.lc L (givB bs (plc v.st v.sp v.sz 0) 7) → VA S' l v.sh → S'[m]? = some (.lst [.ref l, .int v.ct]) → S.length ≤ m → Q (.ref m) S') : Rs (F_View_during__0 [.ref l] S) Q E := by
  have ob := h.ob
  have hne : v.lw ≠ l := by rintro e; have h1 := h.wi; unfold WiA at h1; rw [e, h.ob] at h1; cases h1
  have hlc : l ≠ v.lc := by rintro e; have h1 := c.at_; rw [← e, h.ob] at h1; cases h1
  have ht : 255 ≤ topV v.sz := by rcases w.wn.sz0 with e | e | e <;> rw [e] <;> decide
  refine rs_fn1 ?_
  unfold G_View_during__0
  walk_at "pv"
  refine check_ok h (fun _ => ?_) (fun z => by rw [hc] at z; cases z)
  refine ot_retFinX ?_
  refine rs_callL rfl ?_
  walk_at "pv"
  refine rs_fn ?_
  unfold G__law_first
  refine ot_seq ?_
  walk_at "pv"
  refine setitem_ok (i := 0) (x := 7) h (L := L) (bs := bs) (fun _ _ => ⟨c, w⟩) hL w.wn.sz0 (fun _ _ _ _ _ _ d S1 f1 ce => ?_) (fun z => by rw [hc] at z; cases z) (fun _ z => by rw [hk] at z; cases z) (fun _ _ z => absurd ⟨by omega, by omega⟩ z) (fun _ _ _ _ z => absurd ⟨by omega, by omega⟩ z)
  rw [if_neg (by omega)] at ce
  have h1 : VA S1 l v := h.fl f1 (by simp; exact ⟨_, c.at_⟩)
  have ob1 := h1.ob
  walk_at "pv"
  refine ⟨_, rfl, isIns_of ob1, ?_⟩
  refine len_ok h1 w hc fun S2 f2 => ?_
  have hct := (sz_le w).2.2
  refine ⟨_, rfl, by omega, ?_⟩
  walk_at "pv"
  refine rs_mkL fun S3 f3 g3 l3 => ?_
  have h3 := (h1.f0 f2).f0 f3
  have ob3 := h3.ob
  have ll := lt_of ob
  have n1 := f1.len
  have n2 := f2.len
  walk_at "pv"
  refine ex_fld ob3 (by decide) (Nat.le_of_ble_eq_true rfl) fun S4 f4 g4 l4 => ?_
  have F : Fr [v.lc, l] S S4 := (((f1.trans f2.nil).trans f3.nil).mono (by simp)).trans (f4.mono (by simp))
  exact q S2.length S4 F (((ce.f0 f2).f0 f3).fl f4 (by simp; exact fun z => hlc z.symm)) ⟨g4, f4.get (by simp; exact hne) h3.wi⟩ (f4.get (by simp; omega) g3) (by omega)
theorem during_1 (h : VA S l v) (c : Ce S v.lc L bs) (w : VI L v) (hL : L ≤ 100000) (hc : v.cl = false) (hk : v.lk = false) (c1 : 1 ≤ v.ct) (q : ∀ x S', Fr [v.lc, l] S S' → Ce S' v.lc L (givB bs (plc v.st v.sp v.sz (v.ct - 1)) 9) → VA S' l v.sh → E 1000 x S') : Rs (F_View_during__1 [.ref l] S) Q E := by
  have ob := h.ob
  have hne : v.lw ≠ l := by rintro e; have h1 := h.wi; unfold WiA at h1; rw [e, h.ob] at h1; cases h1
  have hlc : l ≠ v.lc := by rintro e; have h1 := c.at_; rw [← e, h.ob] at h1; cases h1
  have ht : 255 ≤ topV v.sz := by rcases w.wn.sz0 with e | e | e <;> rw [e] <;> decide
  refine rs_fn1 ?_
  unfold G_View_during__1
  walk_at "pv"
  refine check_ok h (fun _ => ?_) (fun z => by rw [hc] at z; cases z)
  refine ot_retFinX ?_
  refine rs_callL rfl ?_
  walk_at "pv"
  refine rs_fn ?_
  unfold G__law_raises
  refine ot_seq ?_
  walk_at "pv"
  refine setitem_ok (i := -1) (x := 9) h (L := L) (bs := bs) (fun _ _ => ⟨c, w⟩) hL w.wn.sz0 (fun _ _ _ _ _ _ d S1 f1 ce => ?_) (fun z => by rw [hc] at z; cases z) (fun _ z => by rw [hk] at z; cases z) (fun _ _ z => absurd ⟨by omega, by omega⟩ z) (fun _ _ _ _ z => absurd ⟨by omega, by omega⟩ z)
  rw [if_pos (by omega), show -1 + v.ct = v.ct - 1 by omega] at ce
  have h1 : VA S1 l v := h.fl f1 (by simp; exact ⟨_, c.at_⟩)
  have ob1 := h1.ob
  walk_at "pv"
  refine ex_fld ob1 (by decide) (Nat.le_of_ble_eq_true rfl) fun S4 f4 g4 l4 => ?_
  have F : Fr [v.lc, l] S S4 := (f1.mono (by simp)).trans (f4.mono (by simp))
  exact q _ S4 F (ce.fl f4 (by simp; exact fun z => hlc z.symm)) ⟨g4, f4.get (by simp; exact hne) h1.wi⟩
end
section
variable {S : Sto} {Q : D → Sto → Prop} {E : ErP} {l p s lc lo lp pc lcs : Nat} {v : Vw} {L n : Int} {bs row : List Int} {M ps : List Nat}
theorem during_2 (h : VA S l v) (hc : v.cl = false) (q : ∀ x S', Fr [l] S S' → VA S' l v.sh → E 6 x S') : Rs (F_View_during__2 [.ref l] S) Q E := by
  have ob := h.ob
  have hne : v.lw ≠ l := by rintro e; have h1 := h.wi; unfold WiA at h1; rw [e, h.ob] at h1; cases h1
  refine rs_fn1 ?_
  unfold G_View_during__2
  walk_at "pv"
  refine check_ok h (fun _ => ?_) (fun z => by rw [hc] at z; cases z)
  refine ot_retFinX ?_
  refine rs_callL rfl ?_
  walk_at "pv"
  refine rs_fn ?_
  unfold G__law_grows
  walk_at "pv"
  refine rs_mkL fun S1 f1 g1 l1 => ?_
  walk_at "pv"
  refine store_mk (bs := [1]) (.inl ⟨_, rfl, g1⟩) (by simp) (by simp) fun lc lo S2 f2 hs c2 o2 m1 m2 => ?_
  have hlo := lt_of o2
  walk_at "pv"
  refine storeview_ok hs c2 o2 (by decide) fun k lw S3 f3 va3 o3 n3 => ?_
  have hs3 : StA S3 S1.length lc lo := f3.get (by simp; omega) hs
  walk_at "pv"
  have hle : Le S3 lo [k] (fun _ => false) := ⟨o3, fun x hx => by obtain rfl : x = k := List.mem_singleton.mp hx; exact ⟨_, va3, rfl⟩, by simp⟩
  refine grow_ok hs3 (bs := [1]) (f3.get (by simp; omega) c2) (by simp) (by decide) hle (fun hq => ?_) (fun _ _ S4 f4 => ?_)
  · exfalso
    rcases hq with z | z
    · omega
    · simp [opens] at z
  have F : Fr [] S S4 := ((f1.nil.trans f2.nil).trans (f3.trans f4.nil)).cut fun x hx => by simp at hx; have := f1.len; omega
  have ob4 := F.g0 ob
  walk_at "pv"
  refine ex_fld ob4 (by decide) (Nat.le_of_ble_eq_true rfl) fun S5 f5 g5 l5 => ?_
  exact q _ S5 (F.nil.trans f5) ⟨g5, f5.get (by simp; exact hne) (F.g0 h.wi)⟩
theorem lawduring_ok {way : Int} (w0 : 0 ≤ way) (w1 : way < 3) (h : VA S l v) (c : Ce S v.lc L bs) (w : VI L v) (hL : L ≤ 100000) (hc : v.cl = false) (hk : v.lk = false) (c1 : 1 ≤ v.ct)
    (q : ∀ d bs3 S', Fr [v.lc, l] S S' → Ce S' v.lc L bs3 → VA S' l v.sh → (way = 0 → bs3 = givB bs (plc v.st v.sp v.sz 0) 7 ∧ ∃ m, d = .ref m ∧ S.length ≤ m ∧ S'[m]? = some (.lst [.ref l, .int v.ct])) → (way = 1 → bs3 = givB bs (plc v.st v.sp v.sz (v.ct - 1)) 9 ∧ d = .str "key") → (way = 2 → bs3 = bs ∧ d = .str "held") → Q d S') :
    Rs (F__law_during [.ref l, .int way] S) Q E := by
  have ob := h.ob
  have hlc : l ≠ v.lc := by rintro e; have h1 := c.at_; rw [← e, h.ob] at h1; cases h1
  refine rs_fn ?_
  unfold G__law_during
  walk_at "pv"
  refine ot_cut (fun e S' => ∃ d bs3, Fr [v.lc, l] S S' ∧ Ce S' v.lc L bs3 ∧ VA S' l v.sh ∧ (way = 0 → bs3 = givB bs (plc v.st v.sp v.sz 0) 7 ∧ ∃ m, d = .ref m ∧ S.length ≤ m ∧ S'[m]? = some (.lst [.ref l, .int v.ct])) ∧ (way = 1 → bs3 = givB bs (plc v.st v.sp v.sz (v.ct - 1)) 9 ∧ d = .str "key") ∧ (way = 2 → bs3 = bs ∧ d = .str "held") ∧ e = [some (.v (.ref l)), some (.v (.int way)), some (.v d)]) ?_ ?_
  · refine ot_tryM ?_
    walk_at "pv"
    refine rs_mPick ?_
    walk_at "pv"
    have : way = 0 ∨ way = 1 ∨ way = 2 := by omega
    rcases this with rfl | rfl | rfl
    · refine ⟨0, _, rfl, rfl, ?_⟩
      refine during_0 h c w hL hc hk c1 fun m S1 f1 ce1 va1 g1 hm => ?_
      exact ⟨_, _, f1, ce1, va1, fun _ => ⟨rfl, m, rfl, hm, g1⟩, fun z => absurd z (by decide), fun z => absurd z (by decide), rfl⟩
    · refine ⟨1, _, rfl, rfl, ?_⟩
      refine during_1 h c w hL hc hk c1 fun x S1 f1 ce1 va1 => ?_
      refine ot_hdN rfl (ot_hdU rfl ?_)
      walk_at "pv"
      exact ⟨_, _, f1, ce1, va1, fun z => absurd z (by decide), fun _ => ⟨rfl, rfl⟩, fun z => absurd z (by decide), rfl⟩
    · refine ⟨2, _, rfl, rfl, ?_⟩
      refine during_2 h hc fun x S1 f1 va1 => ?_
      refine ot_hdU rfl ?_
      walk_at "pv"
      exact ⟨_, _, f1.mono (by simp), c.fl f1 (by simp; exact fun z => hlc z.symm), va1, fun z => absurd z (by decide), fun z => absurd z (by decide), fun _ => ⟨rfl, rfl⟩, rfl⟩
  rintro e S1 ⟨d, bs3, k1, k2, k3, k4, k5, k6, rfl⟩
  walk_at "pv"
  exact q d bs3 S1 k1 k2 k3 k4 k5 k6
theorem cut_one {d : D} {ds : List D} : Pu.cutD (d :: ds) (some 1) none = ds := by
  unfold Pu.cutD
  have e1 : HT.sIx (d :: ds).length 0 (some 1) = 1 := by show (if (1 : Int) < 0 then ((1 : Int) + ((d :: ds).length : Int)).toNat else min (1 : Int).toNat (d :: ds).length) = 1; rw [if_neg (by decide), List.length_cons]; exact Nat.min_eq_left (by show 1 ≤ ds.length + 1; omega)
  have e2 : HT.sIx (d :: ds).length (d :: ds).length none = ds.length + 1 := rfl
  rw [e1, e2, List.drop_one, List.tail_cons, List.take_of_length_le (by omega)]
theorem fill_ok {x0 x1 x2 x3 x5 x6 x7 : Option Sl} {dm qa : Nat} {r bs' : List Int} {N : NxP} {R : RtP} {BB CC : NxP} {X : XxP} (hq : S[qa]? = some (.lst (r.map D.int))) (hd : S[dm]? = some (.lst (bs'.map D.int))) (hne : qa ≠ dm) (hin : ∀ y ∈ r, 0 ≤ y ∧ y < bs'.length)
    (q : ∀ S' x7, Fr [dm] S S' → S'[dm]? = some (.lst ((r.foldl (fun b y => b.set y.toNat 0) bs').map D.int)) → N [x0, x1, x2, x3, some (.v (.ref dm)), x5, x6, x7] S') :
    Ot (loopS (some (qa, .lst (r.map D.int))) (.nm 7) (sSub (eV 4) (eV 7) (eC (.int 0))) (r.map D.int) [x0, x1, x2, x3, some (.v (.ref dm)), x5, x6, x7] S) N R BB CC X := by
  refine loop_inv (fun j e S' => Fr [dm] S S' ∧ S'[dm]? = some (.lst (((r.take j).foldl (fun b y => b.set y.toNat 0) bs').map D.int)) ∧ ∃ y, e = [x0, x1, x2, x3, some (.v (.ref dm)), x5, x6, y]) ⟨Fr.refl, hd, _, rfl⟩ (fun _ _ S' hh => by have := hh.1.get (by simp; exact hne) hq; exact this) ?_ ?_
  · rintro j d e S2 hd2 ⟨F, g, z, rfl⟩
    rw [List.getElem?_map] at hd2
    obtain ⟨y, hy, rfl⟩ := Option.map_eq_some_iff.mp hd2
    have hm := hin y (List.mem_of_getElem? hy)
    have hl : ∀ (r : List Int) (b : List Int), (r.foldl (fun b y => b.set y.toNat 0) b).length = b.length := by
      intro r
      induction r with
      | nil => intro b; rfl
      | cons a r ih => intro b; rw [List.foldl_cons, ih, List.length_set]
    have hl2 := hl (r.take j) bs'
    have et : (r.take (j + 1)).foldl (fun b y => b.set y.toNat 0) bs' = ((r.take j).foldl (fun b y => b.set y.toNat 0) bs').set y.toNat 0 := by rw [List.take_add_one, hy, List.foldl_append]; rfl
    rw [et]
    generalize (r.take j).foldl (fun b y => b.set y.toNat 0) bs' = a at *
    refine ⟨_, rfl, ?_⟩
    walk_at "pv"
    refine ex_setL g (j := y.toNat) (by unfold ixN; rw [List.length_map, if_pos (by omega), if_pos (by omega)]) fun S3 f3 g4 l4 => ?_
    exact ⟨F.trans f3, by rw [g4, ← List.map_set], _, rfl⟩
  · rintro e S2 ⟨F, g, z, rfl⟩
    rw [List.length_map, List.take_length] at g
    exact q S2 z F g
end
theorem plc_head {st sp sz i : Int} (h : szOk sz) : ∃ r, plc st sp sz i = (st + i * sp) :: r := by
  unfold plc
  rcases h with rfl | rfl | rfl
  · exact ⟨_, by simp [List.range_succ]; rfl⟩
  · exact ⟨_, by simp [List.range_succ]; rfl⟩
  · exact ⟨_, by simp [List.range_succ]; rfl⟩
theorem giv_head {bs r : List Int} {p x : Int} (h0 : 0 ≤ x) (h1 : x < 256) : givB bs (p :: r) x = r.foldl (fun b y => b.set y.toNat 0) (bs.set p.toNat x) := by
  rw [givB_cons, ← giv_zero]
  congr 1
  · congr 1; omega
  · omega
section
variable {S : Sto} {Q : D → Sto → Prop} {E : ErP} {l p s lc lo lp pc lcs : Nat} {v : Vw} {L n : Int} {bs row : List Int} {M ps : List Nat}
theorem deeds_ok (po : PoA S lp pc n) (hn : n < 9000) (hs : StA S s lc lo) (h : VA S l v) (c : Ce S v.lc L bs) (hlc : v.lc = lc) (w : VI L v) (hL : L ≤ 10000) (hc : v.cl = false) (hk : v.lk = false) (c1 : 1 ≤ v.ct) (r : RwA M S lcs (rowsOf v.st v.sp v.ct v.sz) ps) (hM : lp ∈ M ∧ v.lc ∈ M ∧ l ∈ M)
    (q : ∀ S', Fr [lp, v.lc, l] S S' → VA S' l v.sh → Q (.bl true) S') : Rs (F__law_deeds [.ref lp, .ref s, .ref l, .ref lcs] S) Q E := by
  have ob := h.ob
  have cat := c.at_
  have hlen := c.len
  have hdic : ∃ dd, S[lp]? = some (.dic dd) := let ⟨_, _, _, _, _, k, _⟩ := po; ⟨_, k⟩
  obtain ⟨dd, hdic⟩ := hdic
  have e1 : l ≠ v.lc := by rintro e; rw [← e, ob] at cat; cases cat
  have e2 : lp ≠ v.lc := by rintro e; rw [← e, hdic] at cat; cases cat
  have e3 : lp ≠ l := by rintro rfl; rw [hdic] at ob; cases ob
  have e4 : s ≠ v.lc := by rintro e; unfold StA at hs; rw [e, cat] at hs; cases hs
  have e5 : s ≠ lp := by rintro rfl; unfold StA at hs; rw [hdic] at hs; cases hs
  have e6 : s ≠ l := by rintro rfl; unfold StA at hs; rw [ob] at hs; cases hs
  have hll := lt_of ob
  have hcl := lt_of cat
  have hpl := lt_of hdic
  have e7 : v.lw ≠ lp := by rintro e; have := h.wi; unfold WiA at this; rw [e, hdic] at this; cases this
  have hrl := r.len
  rw [rows_len] at hrl
  have hpl2 : (ps.length : Int) = v.ct := by rw [hrl]; exact Int.toNat_of_nonneg w.wn.ct0
  refine rs_fn ?_
  unfold G__law_deeds
  walk_at "pv"
  refine storelisted_ok hs (by rw [← hlc]; exact cat) fun S1 f1 g1 l1 => ?_
  walk_at "pv"
  refine dw (po.f0 f1) fun way S2 w0 w1 p2 f2 => ?_
  have g2 := f2.get (by simp; omega) g1
  have h2 : VA S2 l v := ⟨f2.get (by simp; exact fun z => e3 z.symm) (f1.g0 ob), f2.get (by simp; exact e7) (f1.g0 h.wi)⟩
  have c2 : Ce S2 v.lc L bs := (c.f0 f1).fl f2 (by simp; exact fun z => e2 z.symm)
  have hs2 : StA S2 s lc lo := f2.get (by simp; exact e5) (f1.g0 hs)
  have r2 := (r.fr (L := []) f1 (by simp)).fr f2 (by simp; exact hM.1)
  have F2 : Fr [lp] S S2 := f1.nil.trans f2
  have ob2 := h2.ob
  walk_at "pv"
  refine lawduring_ok w0 w1 h2 c2 w (by omega) hc hk c1 fun d bs3 S3 f3 ce3 va3 k0 k1 k2 => ?_
  have g3 := f3.get (by simp; omega) g2
  have hs3 : StA S3 s lc lo := f3.get (by simp; exact ⟨e4, e6⟩) hs2
  have r3 := r2.fr f3 (by simp; exact hM.2)
  have F3 : Fr [lp, v.lc, l] S S3 := (F2.mono (by simp)).trans (f3.mono (by simp))
  have n3 := F3.len
  have k0' : way = 0 → bs3 = givB bs (plc v.st v.sp v.sz 0) 7 ∧ ∃ m, d = .ref m ∧ S2.length ≤ m ∧ S3[m]? = some (.lst [.ref l, .int v.ct]) := k0
  refine ot_cut (fun e S' => Fr [] S3 S' ∧ e = [some (.v (.ref lp)), some (.v (.ref s)), some (.v (.ref l)), some (.v (.ref lcs)), some (.v (.ref S.length)), some (.v (.int way)), some (.v d), none]) ?_ ?_
  · walk_at "pv"
    refine gone_ok (bs := bs3) (L := L) va3 (fun z => by cases z) (by omega) fun S4 f4 => ?_
    have va4 := va3.f0 f4
    have ob4 := va4.ob
    walk_at "pvc"
    refine rs_own1 (isIns_of ob4) (by unfold okR; dsimp only; rw [ob4]; rfl) ?_
    refine eq_view (L := L) (L2 := L) (bs := bs) (bs2 := bs) va4 va4 (fun z => by cases z) (by omega) (by omega) (fun _ => ?_) (fun z => by cases z)
    walk_at "pvc"
    exact ⟨f4, rfl⟩
  rintro e S4 ⟨f4, rfl⟩
  have g4 := f4.g0 g3
  have hs4 : StA S4 s lc lo := f4.g0 hs3
  have ce4 := ce3.f0 f4
  have r4 := r3.fr (L := []) f4 (by simp)
  have va4 := va3.f0 f4
  have F4 := F3.trans f4.nil
  have n4 := f4.len
  -- one cell of the law's own bytes: the first place gets x, the others 0
  have cell : ∀ (i : Nat) (a : Int) (x : Int), 0 ≤ x → x < 256 → i < v.ct → (a = (i : Int) ∨ a = (i : Int) - v.ct) → ∃ p0 rest pa, atI (ps.map D.ref) a = some (.ref pa) ∧ S4[pa]? = some (.lst ((p0 :: rest).map D.int)) ∧ pa ≠ S.length ∧ (0 ≤ p0 ∧ p0 < bs.length) ∧ (∀ y ∈ rest, 0 ≤ y ∧ y < bs.length) ∧ givB bs (plc v.st v.sp v.sz i) x = rest.foldl (fun b y => b.set y.toNat 0) (bs.set p0.toNat x) := by
    intro i a x x0 x1 hi ha
    have hil : i < ps.length := Int.ofNat_lt.mp (by rw [hpl2]; exact hi)
    clear hrl
    obtain ⟨rest, hrest⟩ := plc_head (st := v.st) (sp := v.sp) (i := (i : Int)) w.wn.sz0
    have hin := w.in_ i (by omega) hi
    have hpa : ps[i]? = some (ps[i]'hil) := List.getElem?_eq_getElem (by omega)
    have hrow := r4.row i _ hpa
    rw [rows_get hi, hrest] at hrow
    have hold := r.row i _ hpa
    have hple : ps[i]'hil < S.length := lt_of hold
    have hmem : ∀ y ∈ plc v.st v.sp v.sz i, 0 ≤ y ∧ y < bs.length := fun y hy => by have := plc_mem hy; omega
    rw [hrest] at hmem
    refine ⟨_, rest, _, ?_, hrow, by omega, hmem _ (by simp), fun y hy => hmem y (by simp [hy]), ?_⟩
    · have hp2 : (ps.map D.ref)[i]? = some (.ref (ps[i]'hil)) := by rw [List.getElem?_map, hpa]; rfl
      rcases ha with rfl | rfl
      · exact Pu.atI_nat hp2
      · have q1 : ¬ (0 ≤ (i : Int) - v.ct) := by omega
        have q2 : -(ps.length : Int) ≤ (i : Int) - v.ct := by omega
        have q3 : ((i : Int) - v.ct + (ps.length : Int)).toNat = i := by omega
        unfold atI ixN
        rw [List.length_map, if_neg q1, if_pos q2]
        show (ps.map D.ref)[((i : Int) - v.ct + (ps.length : Int)).toNat]? = _
        rw [q3, hp2]
    · rw [hrest]; exact giv_head x0 x1
  have fin : ∀ S5, Fr [S.length] S4 S5 → ∀ {R : D → Sto → Prop} {E : ErP}, (∀ S6, Fr [] S5 S6 → S6[S5.length]? = some (.lst (bs3.map D.int)) → R (.ref S5.length) S6) → Rs (F_Store_listed [.ref s] S5) R E := by
    intro S5 f5 R E rr
    have hs5 : StA S5 s lc lo := f5.get (by simp; have := lt_of hs; omega) hs4
    exact storelisted_ok hs5 (by rw [← hlc]; exact f5.get (by simp; omega) ce4.at_) fun S6 f6 g6 l6 => rr S6 f6 g6
  have close : ∀ S5, Fr [S.length] S4 S5 → ∀ S6, Fr [] S5 S6 → Q (.bl true) S6 := by
    intro S5 f5 S6 f6
    refine q S6 (((F4.mono (L' := [lp, v.lc, l, S.length]) (by simp)).trans ((f5.mono (by simp)).trans f6.nil)).cut fun x hx => by simp at hx ⊢; omega) ⟨f6.g0 (f5.get (by simp; omega) va4.ob), f6.g0 (f5.get (by simp; have := lt_of h.wi; omega) va4.wi)⟩
  have : way = 0 ∨ way = 1 ∨ way = 2 := by omega
  rcases this with rfl | rfl | rfl
  · obtain ⟨rfl, m, rfl, hml, hm⟩ := k0' rfl
    have n12 := f2.len
    obtain ⟨p0, rest, pa, a1, a2, a3, a4, a5, a6⟩ := cell 0 0 7 (by decide) (by decide) (by omega) (.inl rfl)
    rw [show ((0 : Nat) : Int) = 0 from rfl] at a6
    have hm4 := f4.g0 hm
    refine ot_seq ?_
    walk_at "pvc"
    refine rs_ixL r4.at_ a1 ?_
    walk_at "pv"
    refine rs_ixL a2 (atN (n := 0) rfl rfl) ?_
    walk_at "pv"
    refine ex_setL g4 (j := p0.toNat) (by unfold ixN; rw [List.length_map, if_pos (by omega), if_pos (by omega)]) fun S5 f5 g5 l5 => ?_
    have a2' := f5.get (by simp; exact a3) a2
    have r5 : S5[lcs]? = some (.lst (ps.map D.ref)) := f5.get (by simp; have := lt_of r.at_; omega) r4.at_
    refine ot_seq ?_
    walk_at "pv"
    refine rs_ixL r5 a1 ?_
    rw [List.map_cons] at a2'
    walk_at "pv"
    refine .inl ⟨_, rfl, ?_⟩
    walk_at "pv"
    refine rs_cutL a2' fun S6 f6 g6 l6 => ?_
    rw [cut_one] at g6
    refine .inr (.inl ⟨_, _, rfl, g6, ?_⟩)
    have g5' := f6.g0 g5
    rw [← List.map_set] at g5'
    refine fill_ok g6 g5' (by have := lt_of g5; omega) (by rw [List.length_set]; exact a5) fun S7 x7 f7 g7 => ?_
    rw [← a6] at g7
    have F7 : Fr [S.length] S4 S7 := f5.trans (f6.nil.trans f7)
    have hs7 : StA S7 s lc lo := F7.get (by simp; have := lt_of hs; omega) hs4
    have hm7 := F7.get (by simp; omega) hm4
    have r7 : S7[lcs]? = some (.lst (ps.map D.ref)) := F7.get (by simp; have := lt_of r.at_; omega) r4.at_
    walk_at "pv"
    refine fin S7 F7 fun S8 f8 g8 => ?_
    walk_at "pv"
    refine rs_eqLL g8 (f8.g0 g7) ?_
    rw [decide_eq_true rfl]
    refine ⟨_, rfl, fun _ => ?_, fun z => by cases z⟩
    have hm8 := f8.g0 hm7
    have r8 := f8.g0 r7
    walk_at "pv"
    refine rs_isi_t (u := .list) (by unfold D.kd; dsimp only; rw [hm8]) rfl ?_
    refine ⟨_, rfl, fun _ => ?_, fun z => by cases z⟩
    walk_at "pv"
    rw [List.length_map, hpl2, decide_eq_true rfl]
    exact close S7 F7 S8 f8
  · obtain ⟨rfl, rfl⟩ := k1 rfl
    obtain ⟨p0, rest, pa, a1, a2, a3, a4, a5, a6⟩ := cell (v.ct - 1).toNat (-1) 9 (by decide) (by decide) (by omega) (.inr (by omega))
    rw [show (((v.ct - 1).toNat : Nat) : Int) = v.ct - 1 by omega] at a6
    refine ot_seq ?_
    walk_at "pv"
    refine if_n (by decide) ?_
    refine ot_next ?_
    refine ot_cut (fun e S' => ∃ x7, Fr [S.length] S4 S' ∧ S'[S.length]? = some (.lst ((givB bs (plc v.st v.sp v.sz (v.ct - 1)) 9).map D.int)) ∧ e = [some (.v (.ref lp)), some (.v (.ref s)), some (.v (.ref l)), some (.v (.ref lcs)), some (.v (.ref S.length)), some (.v (.int 1)), some (.v (.str "key")), x7]) ?_ ?_
    · walk_at "pvc"
      refine rs_ixL r4.at_ a1 ?_
      walk_at "pv"
      refine rs_ixL a2 (atN (n := 0) rfl rfl) ?_
      walk_at "pv"
      refine ex_setL g4 (j := p0.toNat) (by unfold ixN; rw [List.length_map, if_pos (by omega), if_pos (by omega)]) fun S5 f5 g5 l5 => ?_
      have a2' := f5.get (by simp; exact a3) a2
      have r5 : S5[lcs]? = some (.lst (ps.map D.ref)) := f5.get (by simp; have := lt_of r.at_; omega) r4.at_
      walk_at "pv"
      refine rs_ixL r5 a1 ?_
      rw [List.map_cons] at a2'
      walk_at "pv"
      refine .inl ⟨_, rfl, ?_⟩
      walk_at "pv"
      refine rs_cutL a2' fun S6 f6 g6 l6 => ?_
      rw [cut_one] at g6
      refine .inr (.inl ⟨_, _, rfl, g6, ?_⟩)
      have g5' := f6.g0 g5
      rw [← List.map_set] at g5'
      refine fill_ok g6 g5' (by have := lt_of g5; omega) (by rw [List.length_set]; exact a5) fun S7 x7 f7 g7 => ?_
      rw [← a6] at g7
      exact ⟨x7, f5.trans (f6.nil.trans f7), g7, rfl⟩
    rintro e S7 ⟨x7, F7, g7, rfl⟩
    have hs7 : StA S7 s lc lo := F7.get (by simp; have := lt_of hs; omega) hs4
    walk_at "pv"
    refine fin S7 F7 fun S8 f8 g8 => ?_
    walk_at "pv"
    refine rs_eqLL g8 (f8.g0 g7) ?_
    rw [decide_eq_true rfl]
    refine ⟨_, rfl, fun _ => ?_, fun z => by cases z⟩
    walk_at "pv"
    rw [decide_eq_true rfl]
    exact close S7 F7 S8 f8
  · obtain ⟨rfl, rfl⟩ := k2 rfl
    refine ot_seq ?_
    walk_at "pvc"
    walk_at "pv"
    refine fin S4 Fr.refl fun S8 f8 g8 => ?_
    walk_at "pv"
    refine rs_eqLL g8 (f8.g0 g4) ?_
    rw [decide_eq_true rfl]
    refine ⟨_, rfl, fun _ => ?_, fun z => by cases z⟩
    walk_at "pv"
    rw [decide_eq_true rfl]
    exact close S4 Fr.refl S8 f8
end
theorem rs_itR3 {S : Sto} {e : Pu.Env} {aa : Ax} {QI : Chk × List D → Sto → Prop} {E : ErP} (h : Rs (aa e S) (fun ds S1 => ∃ i j k : Int, ds = [.int i, .int j, .int k] ∧ (k ≠ 0 ∧ k.natAbs < 1073741824 ∧ Builtin.Range.small i j k = true ∧ 0 ≤ Builtin.Range.rangeSize i j k) ∧ QI (none, (List.range (Builtin.Range.rangeSize i j k).toNat).map fun (m : Nat) => D.int (i + (m : Nat) * k)) S1) E) : Rs (itR3 aa e S) QI E :=
  rs_bind (h.mono (fun ds S1 ⟨i, j, k, e1, h1, q⟩ => by subst e1; dsimp only; rw [if_pos h1]; exact rs_ok q) fun _ _ _ z => z)
theorem cells_loop {sz : Int} (hz : szOk sz) {n : Nat} (hn : n ≤ 1000) {S : Sto} {e : Pu.Env} (h15 : 15 < e.length) (h2 : e[2]? = some (some (.v (.int sz)))) : ∃ (ps : List Nat) (T : Sto), loopC none (.nm 15) bYes (eLstRg (eV 15) (eB dAdd (eV 15) (eV 2))) ((List.range n).map fun (m : Nat) => D.int (0 + (m : Nat) * sz)) e S = .ok (ps.map D.ref) T ∧ Fr [] S T ∧ ps.length = n ∧
    (∀ (j p : Nat), ps[j]? = some p → T[p]? = some (.lst ((plc 0 sz sz (j : Int)).map D.int))) ∧ ∀ p ∈ ps, S.length ≤ p := by
  have hz1 : 1 ≤ sz ∧ sz ≤ 4 := by unfold szOk at hz; omega
  obtain ⟨zs, T, e1, F2, ps', e2, e3, e4, e5⟩ := loopC_inv (k := none) (p := .nm 15) (tb := bYes) (a := eLstRg (eV 15) (eB dAdd (eV 15) (eV 2))) (e := e) ((List.range n).map fun (m : Nat) => D.int (0 + (m : Nat) * sz))
    (fun j ys T => Fr [] S T ∧ ∃ ps' : List Nat, ys = ps'.map D.ref ∧ ps'.length = j ∧ (∀ (i p : Nat), ps'[i]? = some p → T[p]? = some (.lst ((plc 0 sz sz (i : Int)).map D.int))) ∧ ∀ p ∈ ps', S.length ≤ p) 0 [] S ⟨Fr.refl, [], rfl, rfl, fun i p z => by simp at z, by simp⟩ (fun _ _ _ _ => trivial) (by
    rintro j d zs T hd ⟨F2, ps', rfl, e3, e4, e5⟩
    rw [List.getElem?_map] at hd
    obtain ⟨m, hm, rfl⟩ := Option.map_eq_some_iff.mp hd
    obtain ⟨j1, j2⟩ := List.getElem?_eq_some_iff.mp hm
    rw [List.length_range] at j1
    rw [List.getElem_range] at j2
    subst j2
    have hjz : 0 ≤ (j : Int) * sz ∧ (j : Int) * sz ≤ 4000 := ⟨Int.mul_nonneg (by omega) (by omega), Int.le_trans (Int.mul_le_mul (show (j : Int) ≤ 1000 by omega) hz1.2 (by omega) (by omega)) (by decide)⟩
    refine ⟨_, rfl, ?_⟩
    refine rs_ok ⟨fun _ => ?_, fun z => by cases z⟩
    refine rs_lstRg ?_
    refine rs_v (by rw [List.getElem?_set_self h15]) ?_
    walk_at "pv"
    refine rs_v (by rw [List.getElem?_set_self h15]) ?_
    refine rs_v (by rw [List.getElem?_set_ne (by decide)]; exact h2) ?_
    walk_at "pv"
    refine ⟨_, _, rfl, rfl, ⟨by omega, by omega⟩, fun T2 f2 g3 l3 => ?_⟩
    rw [show 0 + (j : Int) * sz + sz - (0 + (j : Int) * sz) = sz by omega, rng_plc] at g3
    have hTl := F2.len
    refine ⟨F2.trans f2, ps' ++ [T.length], by simp, by simp [e3], fun i p hp => ?_, fun p hp => ?_⟩
    · by_cases hi : i < ps'.length
      · rw [List.getElem?_append_left hi] at hp
        exact f2.g0 (e4 i p hp)
      · have hi2 : i = ps'.length := by have := (List.getElem?_eq_some_iff.mp hp).1; simp at this; omega
        subst hi2
        simp at hp
        subst hp
        rw [e3, Nat.zero_add]
        exact g3
    · rcases List.mem_append.mp hp with hp | hp
      · exact e5 p hp
      · rw [List.mem_singleton.mp hp]; omega)
  rw [List.nil_append] at e2
  subst e2
  rw [Nat.zero_add, List.length_map, List.length_range] at e3
  exact ⟨ps', T, e1, F2, e3, e4, e5⟩
theorem vals_loop {M ps : List Nat} {S : Sto} {lcs ld : Nat} {rows : List (List Int)} {bs : List Int} {e : Pu.Env} (h : RwA M S lcs rows ps) (hd : S[ld]? = some (.lst (bs.map D.int))) (by_ : ∀ b ∈ bs, 0 ≤ b ∧ b ≤ 255) (hin : ∀ r ∈ rows, r.length ≤ 4 ∧ ∀ x ∈ r, 0 ≤ x ∧ x < bs.length) (h16 : 16 < e.length) (h3 : e[3]? = some (some (.v (.ref ld)))) :
    ∃ T, loopC (some (lcs, .lst (ps.map D.ref))) (.nm 16) bYes (eF 1 F__law_value (aC (eComp (itSeq (eV 16)) (.nm 15) [15] bYes (eB dIdx (eV 3) (eV 15))) aN)) (ps.map D.ref) e S = .ok ((rows.map (valB bs)).map D.int) T ∧ Fr [] S T := by
  obtain ⟨zs, T, e1, F2, e2⟩ := loopC_inv (k := some (lcs, .lst (ps.map D.ref))) (p := .nm 16) (tb := bYes) (a := eF 1 F__law_value (aC (eComp (itSeq (eV 16)) (.nm 15) [15] bYes (eB dIdx (eV 3) (eV 15))) aN)) (e := e) (ps.map D.ref)
    (fun j ys T => Fr [] S T ∧ ys = ((rows.take j).map (valB bs)).map D.int) 0 [] S ⟨Fr.refl, rfl⟩ (fun _ _ T h' => h'.1.g0 h.at_) (by
    rintro j d zs T hj ⟨F, rfl⟩
    rw [List.getElem?_map] at hj
    obtain ⟨p, hp, rfl⟩ := Option.map_eq_some_iff.mp hj
    have hjl := (List.getElem?_eq_some_iff.mp hp).1
    have hlen := h.len
    have hrow := F.g0 (h.row j p hp)
    have hr2 : rows[j]? = some (rows.getD j []) := by rw [List.getD_eq_getElem?_getD, List.getElem?_eq_getElem (by omega)]; rfl
    obtain ⟨r4, rin⟩ := hin _ (List.mem_of_getElem? hr2)
    generalize hrw : rows.getD j [] = row at *
    refine ⟨_, rfl, ?_⟩
    refine rs_ok ⟨fun _ => ?_, fun z => by cases z⟩
    walk_at "pv"
    refine rs_comp ?_
    walk_at "pv"
    have w16 : (wipeE (e.set 16 (some (.v (.ref p)))) [15])[16]? = some (some (.v (.ref p))) := by unfold wipeE wipeE; rw [List.getElem?_set_ne (by decide), List.getElem?_set_self h16]
    refine rs_v (by rw [List.getElem?_set_self h16]) ?_
    refine .inr (.inl ⟨_, _, rfl, hrow, ?_⟩)
    refine ⟨by rw [List.length_map]; omega, ?_⟩
    refine ⟨_, _, loopC_pure (k := some (p, .lst (row.map D.int))) (S := T) (fun d => match d with | .int x => some (.int (gB bs x)) | _ => none) hrow _ (fun d hd2 => ?_), fun S3 f3 g3 l3 => ?_⟩
    · obtain ⟨x, hx, rfl⟩ := List.mem_map.mp hd2
      have hx2 := rin x hx
      refine ⟨_, rfl, .inr ⟨_, rfl, rfl, ?_⟩⟩
      have e15 : 15 < (wipeE (e.set 16 (some (.v (.ref p)))) [15]).length := by unfold wipeE wipeE; rw [List.length_set, List.length_set]; omega
      have : Rs (eB dIdx (eV 3) (eV 15) ((wipeE (e.set 16 (some (.v (.ref p)))) [15]).set 15 (some (.v (.int x)))) T) (fun d S' => d = .int (gB bs x) ∧ T = S') noE := by
        walk_at "pv"
        refine rs_v (d := .ref ld) (by unfold wipeE wipeE; rw [List.getElem?_set_ne (by decide), List.getElem?_set_ne (by decide), List.getElem?_set_ne (by decide)]; exact h3) ?_
        refine rs_v (by rw [List.getElem?_set_self e15]) ?_
        exact rs_ixL (F.g0 hd) (atI_int hx2.1 (gB_at hx2.1 hx2.2)) ⟨rfl, rfl⟩
      exact this.toEq
    · have ef : (row.map D.int).filterMap (fun d => match d with | .int x => some (.int (gB bs x)) | _ => none) = (row.map (gB bs)).map D.int := by
        rw [List.filterMap_map, List.map_map]
        exact filterMap_all fun x _ => rfl
      rw [ef] at g3
      walk_at "pv"
      refine lawval_ok g3 by_ r4 ?_
      refine ⟨F.trans f3, ?_⟩
      rw [Nat.zero_add, List.take_add_one, hr2, List.map_append, List.map_append]
      rfl)
  rw [List.nil_append] at e2
  subst e2
  rw [List.length_map, Nat.zero_add, h.len, List.take_length] at e1
  exact ⟨T, e1, F2⟩
theorem PoA.lst {S : Sto} {l lc : Nat} {n : Int} (h : PoA S l lc n) : ∃ xs, S[lc]? = some (.lst xs) := let ⟨_, _, _, _, _, _, k, _⟩ := h; ⟨_, k⟩
theorem PoA.dic {S : Sto} {l lc : Nat} {n : Int} (h : PoA S l lc n) : ∃ xs, S[l]? = some (.dic xs) := let ⟨_, _, _, _, _, k, _, _⟩ := h; ⟨_, k⟩
theorem size_at {r : Int} (h0 : 0 ≤ r) (h1 : r < 3) : ∃ w, atI [D.int 1, .int 2, .int 4] r = some (.int w) ∧ szOk w := by
  have : r = 0 ∨ r = 1 ∨ r = 2 := by omega
  rcases this with rfl | rfl | rfl
  · exact ⟨1, rfl, .inl rfl⟩
  · exact ⟨2, rfl, .inr (.inl rfl)⟩
  · exact ⟨4, rfl, .inr (.inr rfl)⟩
theorem pace_at {r : Int} (h0 : 0 ≤ r) (h1 : r < 6) : ∃ k, atI [D.int 1, .int 2, .int (-1), .int (-2), .int 3, .int (-3)] r = some (.int k) ∧ k ≠ 0 ∧ -3 ≤ k ∧ k ≤ 3 := by
  have : r = 0 ∨ r = 1 ∨ r = 2 ∨ r = 3 ∨ r = 4 ∨ r = 5 := by omega
  rcases this with rfl | rfl | rfl | rfl | rfl | rfl
  · exact ⟨1, rfl, by decide, by decide, by decide⟩
  · exact ⟨2, rfl, by decide, by decide, by decide⟩
  · exact ⟨-1, rfl, by decide, by decide, by decide⟩
  · exact ⟨-2, rfl, by decide, by decide, by decide⟩
  · exact ⟨3, rfl, by decide, by decide, by decide⟩
  · exact ⟨-3, rfl, by decide, by decide, by decide⟩
abbrev eP (ns : List Int) (lp : Nat) (sz : Int) (ld : Nat) (k : Int) (s s' pv qv : Nat) (x9 x10 x11 x12 x13 x14 x15 x16 : Option Sl) : Pu.Env := [some (.v (.lsf (ns.map D.int))), some (.v (.ref lp)), some (.v (.int sz)), some (.v (.ref ld)), some (.v (.int k)), some (.v (.ref s)), some (.v (.ref s')), some (.v (.ref pv)), some (.v (.ref qv)), x9, x10, x11, x12, x13, x14, x15, x16]
theorem law_rs (ns : List Int) (hns : ns.length ≤ 63) (S : Sto) : Rs (F_law [.lsf (ns.map D.int)] S) (fun d _ => d = .bl true) noE := by
  refine rs_fn ?_
  unfold G_law
  walk_at "pv"
  refine rs_disp ?_
  dsimp only [aDs]
  walk_at "pv"
  have f0 : Fr [] S (S ++ [.dic []]) := Fr.push
  have p0 : (S ++ [.dic []])[S.length]? = some (.dic []) := at_push
  generalize hS0 : S ++ [.dic []] = S0 at f0 p0
  have l0 : S0.length = S.length + 1 := by rw [← hS0]; simp
  clear hS0
  have bl : ∀ {R : D → Sto → Prop} {E : ErP}, (∀ S2, Fr [] S0 S2 → S2[S0.length]? = some (.lst (ns.map D.int)) → S2.length = S0.length + 1 → R (.ref S0.length) S2) → Rs (bList [.lsf (ns.map D.int)] S0) R E := fun q => rs_ok (q _ Fr.push at_push (by simp))
  refine bl fun S1 f1 g1 l1 => ?_
  walk_at "pv"
  refine .inl ⟨_, rfl, ?_⟩
  refine rs_cutL g1 fun S2 f2 g2 l2 => ?_
  walk_at "pv"
  refine ⟨f2.g0 (f1.g0 p0), fun S3 f3 g3 l3 => ?_⟩
  obtain ⟨cs, hcs, hcl⟩ : ∃ cs : List Int, Pu.cutD (ns.map D.int) none (some 63) = cs.map D.int ∧ cs.length ≤ 63 := by
    refine ⟨(ns.drop _).take _, by unfold Pu.cutD; rw [List.map_take, List.map_drop], by rw [List.length_take, List.length_drop]; omega⟩
  rw [hcs] at g2
  have po : PoA S3 S.length S1.length 0 := ⟨0, 0, 0, 1, cs, g3, f3.get (by simp; have := f1.len; omega) g2, hcl, by decide, by decide, by decide, by decide, by decide⟩
  clear g3 g2 g1
  generalize hlp : S.length = lp at *
  generalize hpc : S1.length = pc at *
  have hlt : lp < pc := by have := f1.len; omega
  have hpcl := (let ⟨_, hh⟩ := po.lst; lt_of hh)
  walk_at "pv"
  refine dw po fun r1 S4 a1 b1 po4 f4 => ?_
  obtain ⟨sz, w1, w2⟩ := size_at a1 b1
  refine rs_ixT w1 ?_
  walk_at "pv"
  refine rs_comp ?_
  walk_at "pv"
  refine dw po4 fun r2 S5 a2 b2 po5 f5 => ?_
  walk_at "pv"
  refine ⟨_, rfl, by omega, ?_⟩
  have hn5 : ((4 + 4 * r2).toNat : Int) = 4 + 4 * r2 := Int.toNat_of_nonneg (by omega)
  refine ⟨by rw [rng_len]; omega, ?_⟩
  obtain ⟨zs, S6, e6, po6, F6, bs, e7, e8, hby⟩ := loopC_inv (k := none) (p := .nm 15) (tb := bYes) (a := eF 2 F__law_draw (aC (eV 1) (aC (eC (.int 256)) aN))) (e := wipeE ((List.set (envS 17 [.lsf (ns.map D.int)]) 1 (some (.v (.ref lp)))).set 2 (some (.v (.int sz)))) [15]) (rngD 0 (4 + 4 * r2).toNat)
    (fun j ys T => PoA T lp pc (2 + (j : Nat)) ∧ Fr [lp] S5 T ∧ ∃ rs : List Int, ys = rs.map D.int ∧ rs.length = j ∧ ∀ b ∈ rs, 0 ≤ b ∧ b ≤ 255) 0 [] S5 ⟨po5.le (by simp), Fr.refl, [], rfl, rfl, by simp⟩ (fun _ _ _ _ => trivial) (by
    rintro j d zs T hd ⟨pj, F, rs, rfl, hl, hb⟩
    obtain ⟨rfl, hj⟩ := rng_get hd
    refine ⟨_, rfl, ?_⟩
    refine rs_ok ⟨fun _ => ?_, fun z => by cases z⟩
    walk_at "pv"
    refine dw pj fun r T2 a2 b2 p2 f2 => ?_
    exact ⟨p2.le (by push_cast; omega), F.trans f2, rs ++ [r], by simp, by simp; omega, fun b hm => (List.mem_append.mp hm).elim (hb b) fun z => by rw [List.mem_singleton.mp z]; omega⟩)
  rw [List.nil_append] at e7
  subst e7
  rw [rng_len, Nat.zero_add] at e8 po6
  have hbl : (bs.length : Int) = 4 + 4 * r2 := by rw [e8]; exact hn5
  refine ⟨_, _, e6, fun S7 f7 g7 l7 => ?_⟩
  have po7 : PoA S7 lp pc 30 := (po6.f0 f7).le (by omega)
  have hpc6 := (let ⟨_, hh⟩ := po5.lst; lt_of hh)
  generalize hld : S6.length = ld at *
  have hld0 : pc < ld := by have := F6.len; omega
  clear po po4 po5 po6 f4 f5 F6 f7 e6 hcl hpcl hpc6 f0 f1 f2 f3 p0
  walk_at "pv"
  refine dw po7 fun r3 S8 a3 b3 po8 f8 => ?_
  obtain ⟨k, k1, k2, k3, k4⟩ := pace_at a3 b3
  refine rs_ixT k1 ?_
  have g8 := f8.get (by simp; omega) g7
  clear po7 g7 f8 l7
  -- the stores
  walk_at "pv"
  refine store_mk (.inl ⟨_, rfl, g8⟩) hby (by omega) fun lc lo S9 f9 hs c9 o9 m1 m2 => ?_
  have g9 := f9.g0 g8
  have hld8 := lt_of g8
  have hlo9 := lt_of o9
  walk_at "pv"
  refine store_mk (.inl ⟨_, rfl, g9⟩) hby (by omega) fun lc' lo' S10 f10 hs' c10 o10 m3 m4 => ?_
  have hs10 : StA S10 S8.length lc lo := f10.g0 hs
  have cc10 := f10.g0 c9
  have oo10 := f10.g0 o9
  have g10 := f10.g0 g9
  have po10 := (po8.f0 f9).f0 f10
  have hlo10 := lt_of o10
  generalize hse : S8.length = s at *
  generalize hse' : S9.length = s' at *
  have hpl10 := (let ⟨_, hh⟩ := po10.dic; lt_of hh)
  clear hs c9 o9 g9 po8 f9 f10 g8
  have L0 : (4 : Int) ≤ bs.length ∧ (bs.length : Int) ≤ 24 := by omega
  have wn0 : WN 0 1 (bs.length : Int) 1 := ⟨by decide, by omega, by omega, .inl rfl, by decide, by decide⟩
  have hz : 1 ≤ sz ∧ sz ≤ 4 := by unfold szOk at w2; omega
  have hdiv : (bs.length : Int) * 1 % sz = 0 := by rw [Int.mul_one, hbl]; rcases w2 with rfl | rfl | rfl <;> omega
  have cok : castOk 1 bs.length 1 sz := ⟨fun z => z.1 rfl, .inl rfl, hdiv⟩
  have vi0 : ∀ (lw : Nat), VI (bs.length : Int) ⟨lc, lw, lo, false, false, 0, 1, bs.length, 1⟩ := fun lw => ⟨wn0, fun i i0 i1 => by
    show 0 ≤ 0 + i * 1 ∧ 0 + i * 1 + 1 ≤ (bs.length : Int)
    have : i < (bs.length : Int) := i1
    omega, by show (bs.length : Int) * 1 ≤ 10000; omega⟩
  -- the view
  walk_at "pv"
  refine storeview_ok hs10 cc10 oo10 (by decide) fun v0 lw0 S11 f11 va0 q0 n0 => ?_
  rw [List.length_map] at va0
  have hv0 := lt_of va0.ob
  have ob0 := va0.ob
  walk_at "pv"
  refine vcast_ok va0 q0 (by simp) wn0 w2 (fun _ _ v1 lw1 S12 f12 va1 q1 n1 => ?_) (fun z => by cases z) (fun _ z => absurd cok z)
  have wn1 := wn0.cast w2 (by omega)
  have vi1 := VI.cast (lw' := lw1) (lk' := false) (cl' := false) (vi0 lw0) w2 cok
  have ob1 := va1.ob
  have hv1 := lt_of ob1
  walk_at "pv"
  refine ⟨⟨rfl, rfl⟩, ?_⟩
  refine vsliced_ok (k := k) (fi := none) (la := none) (o := some k) va1 q1 (by simp) wn1.1 rfl k2 (by omega) (fun _ pv lw2 S13 f13 va2 q2 n2 => ?_) (fun z => by cases z)
  have hs1 : ab sz ≤ 4 ^ (0 + 1) := by rw [ab_nat]; omega
  have wn2 := wn1.1.slice (fi := none) (la := none) (j := 0) k2 (by omega) (by omega) hs1 (by omega)
  have vi2 := VI.slice (fi := none) (la := none) (lw' := lw2) (lk' := false) (cl' := false) (j := 0) vi1 k2 (by omega) (by omega) hs1 (by omega)
  have F13 : Fr [lo] S10 S13 := (f11.trans f12).trans f13
  have hct1 : 1 ≤ (bs.length : Int) * 1 / sz := by rw [Int.mul_one]; exact (Int.le_ediv_iff_mul_le (by omega)).mpr (by omega)
  have hpos := slN_one' k2 hct1
  generalize hct : (bs.length : Int) * 1 / sz = ct at *
  generalize hst : 0 + slB none none k ct * sz = st at *
  generalize hsp : sz * k = sp at *
  generalize hcn : slN none none k ct = cn at *
  have hpv := lt_of va2.ob
  have hs' : StA S13 s' lc' lo' := F13.get (by simp; omega) hs'
  have cc' := F13.get (by simp; omega) c10
  have oo' := F13.get (by simp; omega) o10
  have po13 := po10.fr F13 (by simp; omega) (by simp; omega)
  have g13 := F13.get (by simp; omega) g10
  have hsA : StA S13 s lc lo := F13.get (by simp; omega) hs10
  have cc := F13.get (by simp; omega) cc10
  have pv0 : lo < pv := by have := F13.len; omega
  have n13 := F13.len
  clear va0 va1 q0 q1 q2 ob0 ob1 f11 f12 f13 F13 vi1 hs10 cc10 oo10 c10 o10 po10 g10
  -- the twin
  walk_at "pv"
  refine storeview_ok hs' cc' oo' (by decide) fun u0 lw3 S14 f14 va3 q3 n3 => ?_
  rw [List.length_map] at va3
  have hu0 := lt_of va3.ob
  have ob3 := va3.ob
  walk_at "pv"
  refine vcast_ok va3 q3 (by simp) wn0 w2 (fun _ _ u1 lw4 S15 f15 va4 q4 n4 => ?_) (fun z => by cases z) (fun _ z => absurd cok z)
  rw [hct] at va4
  have ob4 := va4.ob
  have hu1 := lt_of ob4
  walk_at "pv"
  refine ⟨⟨rfl, rfl⟩, ?_⟩
  refine vsliced_ok (k := k) (fi := none) (la := none) (o := some k) va4 q4 (by simp) wn1.1 rfl k2 (by omega) (fun _ qv lw5 S16 f16 va5 q5 n5 => ?_) (fun z => by cases z)
  rw [hst, hsp, hcn] at va5
  have F16 : Fr [lo'] S13 S16 := (f14.trans f15).trans f16
  have hqv := lt_of va5.ob
  have va2' : VA S16 pv ⟨lc, lw2, lo, false, false, st, sp, cn, sz⟩ := va2.fl F16 (by simp; exact ⟨_, oo'⟩)
  have hsA := F16.get (by simp; omega) hsA
  have cc := F16.get (by simp; omega) cc
  have hs' := F16.get (by simp; omega) hs'
  have cc' : S16[lc']? = some (.lst (bs.map D.int)) := F16.get (by simp; omega) cc'
  have po16 := po13.fr F16 (by simp; omega) (by simp; omega)
  have g16 := F16.get (by simp; omega) g13
  have n16 := F16.len
  have hpq : pv < qv := by omega
  clear va2 va3 va4 q3 q4 q5 ob3 ob4 f14 f15 f16 F16 oo' po13 g13
  -- the law's cells
  walk_at "pv"
  have hrs : Builtin.Range.rangeSize 0 (bs.length : Int) sz = ct := by
    rw [rangeSize_pos (by omega) (by omega), ← hct, Int.mul_one]
    rcases w2 with rfl | rfl | rfl <;> omega
  have hct24 : ct ≤ 24 := by rw [← hct, Int.mul_one]; rcases w2 with rfl | rfl | rfl <;> omega
  refine rs_comp ?_
  walk_at "pv"
  refine rs_itR3 ?_
  walk_at "pv"
  rw [List.length_map]
  refine ⟨_, _, _, rfl, ⟨by omega, by omega, ?_, by rw [hrs]; omega⟩, ?_⟩
  · unfold Builtin.Range.small
    rw [hrs]
    simp only [Builtin.Range.rangeFitsLong, Bool.and_eq_true, Bool.or_eq_true, decide_eq_true_eq, beq_iff_eq, show (sz > 0) by omega, if_true]
    omega
  rw [hrs]
  refine ⟨by rw [List.length_map, List.length_range]; omega, ?_⟩
  obtain ⟨ps0, S17, e17, f17, h17, r17, x17⟩ := cells_loop (sz := sz) w2 (n := ct.toNat) (by omega) (S := S16) (e := wipeE ((((((((List.set (envS 17 [.lsf (ns.map D.int)]) 1 (some (.v (.ref lp)))).set 2 (some (.v (.int sz)))).set 3 (some (.v (.ref ld)))).set 4 (some (.v (.int k)))).set 5 (some (.v (.ref s)))).set 6 (some (.v (.ref s')))).set 7 (some (.v (.ref pv)))).set 8 (some (.v (.ref qv)))) [15]) (by unfold wipeE wipeE; simp [envS]) rfl
  refine ⟨_, S17, e17, fun S18 f18 g18 l18 => ?_⟩
  have n17 := f17.len
  have r18 : RwA [lp, lc, pv] S18 S17.length (rowsOf 0 sz ct sz) ps0 := ⟨g18, by rw [rows_len]; exact h17, fun j p hp => by
    have hj := (List.getElem?_eq_some_iff.mp hp).1
    rw [rows_get (by omega)]
    exact f18.g0 (r17 j p hp), by simp; omega, fun p hp => by have := x17 p hp; simp; omega⟩
  obtain ⟨ps, ep, rp⟩ := r18.slice (f := none) (l := none) (o := some k) (k := k) (by omega) rfl k2
  rw [hst, hsp, hcn] at rp
  walk_at "pv"
  refine .inl ⟨_, rfl, ?_⟩
  refine ⟨_, _, rfl, by simpa using k2, g18, fun S19 f19 g19 l19 => ?_⟩
  rw [ep] at g19
  have F19 := (f17.trans f18).trans f19
  have n18 := f18.len
  have r19 := rp S19 S18.length f19 g19 (by simp; omega)
  generalize hlcs : S18.length = lcs at *
  clear r18 rp ep r17 x17 e17
  -- the values
  have rin := rows_in vi2
  simp only at rin
  walk_at "pv"
  refine rs_comp ?_
  walk_at "pv"
  refine .inr (.inl ⟨_, _, rfl, r19.at_, ?_⟩)
  have hrl := r19.len
  rw [rows_len] at hrl
  have hcnl : cn ≤ 24 := by
    have := vi2.many
    have h1 : cn * sz ≤ ct * sz := by rw [← hcn]; exact Int.mul_le_mul_of_nonneg_right (slN_le k2 (by omega)) (by omega)
    have := slN_le (f := none) (l := none) (c := ct) k2 (by omega)
    omega
  refine ⟨by rw [List.length_map]; omega, ?_⟩
  have ld19 := F19.g0 g16
  obtain ⟨S20, e20, f20⟩ := vals_loop (e := wipeE (eP ns lp sz ld k s s' pv qv (some (.v (.ref lcs))) none none none none none none none) [16]) r19 ld19 hby rin (by unfold wipeE wipeE eP; simp) rfl
  refine ⟨_, S20, e20, fun S21 f21 g21 l21 => ?_⟩
  have F21 := (F19.trans f20).trans f21
  have r21 := (r19.fr (L := []) f20 (by simp)).fr (L := []) f21 (by simp)
  have va := va2'.f0 F21
  have vb := va5.f0 F21
  have ca : Ce S21 lc bs.length bs := ⟨F21.g0 cc, rfl, hby⟩
  have cb : Ce S21 lc' bs.length bs := ⟨F21.g0 cc', rfl, hby⟩
  have vib : VI (bs.length : Int) ⟨lc', lw5, lo', false, false, st, sp, cn, sz⟩ := ⟨vi2.wn, vi2.in_, vi2.many⟩
  have hsA := F21.g0 hsA
  have po21 := po16.f0 F21
  have ld21 := F21.g0 g16
  have n21 := F21.len
  clear cc cc' va2' va5 r19 ld19 g16 po16 F19 f17 f18 f19 f20 f21 e20 g18 F21 g19
  -- what they tell
  walk_at "pv"
  generalize hlv : S20.length = lv at *
  have hlcs19 := lt_of r21.at_
  refine ot_cut (fun e S' => Fr [] S21 S' ∧ e = eP ns lp sz ld k s s' pv qv (some (.v (.ref lcs))) (some (.v (.ref lv))) none none none none none none) ?_ ?_
  · have oba := va.ob
    walk_at "pv"
    refine listed_ok va ca vi2 (by omega) rfl fun m1' S22 f22 g22 h22 => ?_
    walk_at "pv"
    refine same_ints g22 (f22.g0 g21) (by rw [List.length_map, rows_len]; show cn.toNat ≤ _; omega) fun S23 f23 => ?_
    have F23 := f22.trans f23
    have va23 := va.f0 F23
    have vb23 := vb.f0 F23
    have ob23 := va23.ob
    have oq23 := vb23.ob
    walk_at "pvc"
    walk_at "pv"
    refine rs_own1 (isIns_of ob23) (by unfold okR; dsimp only; rw [oq23]; rfl) ?_
    refine eq_view (L := bs.length) (L2 := bs.length) (bs := bs) (bs2 := bs) va23 vb23 (fun _ _ => ⟨ca.f0 F23, vi2, cb.f0 F23, vib, rfl⟩) (by omega) (by omega) (fun z => by rcases z with z | z <;> cases z) fun _ _ S24 f24 => ?_
    rw [decide_eq_true rfl]
    have ob24 := f24.g0 ob23
    walk_at "pvc"
    walk_at "pv"
    refine rs_own1 (isIns_of ob24) rfl ?_
    refine eq_no (va23.f0 f24) (.inl ⟨_, rfl⟩) ?_
    have lv24 := f24.g0 (F23.g0 g21)
    walk_at "pvc"
    walk_at "pv"
    refine rs_own1 (isIns_of ob24) (by unfold okR; dsimp only; rw [lv24]) ?_
    refine eq_no (va23.f0 f24) (.inr ⟨_, _, rfl, lv24⟩) ?_
    walk_at "pvc"
    exact ⟨F23.trans f24, rfl⟩
  rintro e S22 ⟨f22, rfl⟩
  have va := va.f0 f22
  have vb := vb.f0 f22
  have ca := ca.f0 f22
  have cb := cb.f0 f22
  have r22 := r21.fr (L := []) f22 (by simp)
  have hsA := f22.g0 hsA
  have po22 := po21.f0 f22
  have ld22 := f22.g0 ld21
  have lv22 := f22.g0 g21
  have n22 := f22.len
  clear r21 po21 ld21 g21 f22
  have cells22 := r22.at_
  walk_at "pv"
  rw [List.length_map]
  refine dw po22 fun at_ S23 t0 t1 po23 f23 => ?_
  obtain ⟨at_, rfl⟩ := Int.eq_ofNat_of_zero_le t0
  have hat : at_ < ps.length := by omega
  have cells23 := f23.get (by simp; omega) cells22
  have hw0 := lt_of va.wi
  have hw1 := lt_of vb.wi
  have keep : ∀ {S' : Sto}, Fr [lp] S22 S' → VA S' pv ⟨lc, lw2, lo, false, false, st, sp, cn, sz⟩ ∧ VA S' qv ⟨lc', lw5, lo', false, false, st, sp, cn, sz⟩ ∧ Ce S' lc bs.length bs ∧ Ce S' lc' bs.length bs ∧ RwA [lp, lc, pv] S' lcs (rowsOf st sp cn sz) ps ∧ StA S' s lc lo ∧ S'[ld]? = some (.lst (bs.map D.int)) ∧ S'[lv]? = some (.lst (((rowsOf st sp cn sz).map (valB bs)).map D.int)) := by
    intro S' f
    obtain ⟨xs, hx⟩ := po22.dic
    have nl : ∀ {j : Nat} {o : Ob}, S22[j]? = some o → (∀ xs, o ≠ .dic xs) → S'[j]? = some o := fun h n => f.get (fun z => by simp at z; subst z; rw [hx] at h; cases h; exact n _ rfl) h
    exact ⟨⟨nl va.ob (by intro xs z; cases z), nl va.wi (by intro xs z; cases z)⟩, ⟨nl vb.ob (by intro xs z; cases z), nl vb.wi (by intro xs z; cases z)⟩, ⟨nl ca.at_ (by intro xs z; cases z), rfl, hby⟩, ⟨nl cb.at_ (by intro xs z; cases z), rfl, hby⟩, r22.fr f (by simp), nl hsA (by intro xs z; cases z), nl ld22 (by intro xs z; cases z), nl lv22 (by intro xs z; cases z)⟩
  refine ot_cut (fun e S' => ∃ x : Int, PoA S' lp pc 40 ∧ Fr [lp] S22 S' ∧ 0 ≤ x ∧ x ≤ topV sz ∧ e = eP ns lp sz ld k s s' pv qv (some (.v (.ref lcs))) (some (.v (.ref lv))) (some (.v (.int at_))) (some (.v (.int x))) none none none none) ?_ ?_
  · walk_at "pv"
    rcases w2 with rfl | rfl | rfl
    · walk_at "pvc"
      walk_at "pv"
      refine dw po23 fun x S24 x0 x1 p24 f24 => ?_
      exact ⟨x, p24.le (by omega), f23.trans f24, x0, by show x ≤ 255; omega, rfl⟩
    · walk_at "pvc"
      walk_at "pv"
      refine dw po23 fun x S24 x0 x1 p24 f24 => ?_
      exact ⟨x, p24.le (by omega), f23.trans f24, x0, by show x ≤ 65535; omega, rfl⟩
    · walk_at "pvc"
      refine dw po23 (fun x S24 x0 x1 p24 f24 => ?_) (by omega) (by decide) (by decide)
      exact ⟨x, p24.le (by omega), f23.trans f24, x0, by have : (256 : Int) ^ Int.toNat 4 = 4294967296 := by decide
                                                         show x ≤ 4294967295; omega, rfl⟩
  rintro e S24 ⟨x, po24, f24, x0, x1, rfl⟩
  obtain ⟨va24, vb24, ca24, cb24, r24, hs24, ld24, lv24⟩ := keep f24
  have n24 := f24.len
  clear keep va vb ca cb r22 hsA ld22 lv22 cells22 cells23 po22 po23 f23
  walk_at "pv"
  refine rs_listL ld24 fun S25 f25 g25 l25 => ?_
  walk_at "pv"
  generalize hdm : S24.length = dm at *
  have hrow : ps[at_]? = some (ps[at_]'hat) := List.getElem?_eq_getElem hat
  have hrw := r24.row at_ _ hrow
  have hatc : (at_ : Int) < cn := by omega
  rw [rows_get hatc] at hrw
  generalize hpa : ps[at_]'hat = pa at *
  have hpal := lt_of hrw
  have hin := vi2.in_ (at_ : Int) (by omega) hatc
  simp only at hin
  have rok : RowOk bs.length (plc st sp sz at_) := plc_ok (by omega)
  have hpl4 : (plc st sp sz (at_ : Int)).length = sz.toNat := plc_len
  refine ot_cut (fun e S' => Fr [dm] S25 S' ∧ S'[dm]? = some (.lst ((givB bs (plc st sp sz at_) x).map D.int)) ∧ ∃ x14 x15, e = eP ns lp sz ld k s s' pv qv (some (.v (.ref lcs))) (some (.v (.ref lv))) (some (.v (.int at_))) (some (.v (.int x))) (some (.v (.ref dm))) x14 x15 none) ?_ ?_
  · walk_at "pv"
    refine rs_ixL (f25.g0 r24.at_) (atN (n := at_) rfl (by rw [List.getElem?_map, hrow]; rfl)) ?_
    have hrw25 := f25.g0 hrw
    refine .inr (.inl ⟨_, _, rfl, hrw25, ?_⟩)
    generalize plc st sp sz (at_ : Int) = row at *
    refine loop_inv (fun n e S' => Fr [dm] S25 S' ∧ ∃ z, e = eP ns lp sz ld k s s' pv qv (some (.v (.ref lcs))) (some (.v (.ref lv))) (some (.v (.int at_))) (some (.v (.int x))) (some (.v (.ref dm))) (some (.v (.int ((row.take n).foldl givS (bs, x)).2))) z none ∧ S'[dm]? = some (.lst (((row.take n).foldl givS (bs, x)).1.map D.int))) ⟨Fr.refl, _, rfl, g25⟩ (fun _ _ S' hh => by have := hh.1.get (by simp; omega) hrw25; exact this) ?_ ?_
    · rintro n d e S2 hd2 ⟨F, z, rfl, g3⟩
      rw [List.getElem?_map] at hd2
      obtain ⟨y, hy, rfl⟩ := Option.map_eq_some_iff.mp hd2
      have hm := rok.in_ y (List.mem_of_getElem? hy)
      have hl2 := givS_len (row := row.take n) (a := (bs, x))
      have et : (row.take (n + 1)).foldl givS (bs, x) = givS ((row.take n).foldl givS (bs, x)) y := by rw [List.take_add_one, hy, List.foldl_append]; rfl
      rw [et]
      generalize (row.take n).foldl givS (bs, x) = a at *
      refine ⟨_, rfl, ?_⟩
      walk_at "pv"
      refine ex_setL g3 (j := y.toNat) (by unfold ixN; rw [List.length_map, if_pos (by omega), if_pos (by simp only at hl2; omega)]) fun S3 f3 g4 l4 => ?_
      walk_at "pv"
      refine ⟨F.trans f3, _, rfl, ?_⟩
      rw [g4, ← List.map_set]
      rfl
    · rintro e S2 ⟨F, z, rfl, g3⟩
      rw [List.length_map, List.take_length] at g3
      exact ⟨F, g3, _, _, rfl⟩
  rintro e S26 ⟨f26, g26, x14, x15, rfl⟩
  have F26 : Fr [] S24 S26 := ((f25.nil (L := [dm])).trans f26).cut fun y hy => by simp at hy; omega
  have va26 := va24.f0 F26
  have vb26 := vb24.f0 F26
  have ca26 := ca24.f0 F26
  have cb26 := cb24.f0 F26
  have r26 := r24.fr (L := []) F26 (by simp)
  have hs26 := F26.g0 hs24
  have ld26 := F26.g0 ld24
  have lv26 := F26.g0 lv24
  have po26 := po24.f0 F26
  have n26 := F26.len
  have hdm26 := lt_of g26
  have cells26 := r26.at_
  clear va24 vb24 ca24 cb24 r24 hs24 ld24 lv24 po24 f24 f25 f26 F26 g25 hrw
  have hlp26 := (let ⟨_, hh⟩ := po26.dic; lt_of hh)
  refine ot_seq ?_
  walk_at "pv"
  rw [List.length_map]
  refine dw po26 fun r S27 b0 b1 po27 f27 => ?_
  have g27 := f27.get (by simp; omega) g26
  have va27 : VA S27 pv ⟨lc, lw2, lo, false, false, st, sp, cn, sz⟩ := ⟨f27.get (by simp; omega) va26.ob, f27.get (by simp; intro z; have := va26.wi; unfold WiA at this; obtain ⟨_, hx⟩ := po26.dic; rw [z] at this; rw [hx] at this; cases this) va26.wi⟩
  have vb27 : VA S27 qv ⟨lc', lw5, lo', false, false, st, sp, cn, sz⟩ := ⟨f27.get (by simp; omega) vb26.ob, f27.get (by simp; intro z; have := vb26.wi; unfold WiA at this; obtain ⟨_, hx⟩ := po26.dic; rw [z] at this; rw [hx] at this; cases this) vb26.wi⟩
  have ca27 : Ce S27 lc bs.length bs := ca26.fl f27 (by simp; omega)
  have cb27 : Ce S27 lc' bs.length bs := cb26.fl f27 (by simp; omega)
  have r27 := r26.fr f27 (by simp)
  have hs27 : StA S27 s lc lo := f27.get (by simp; omega) hs26
  have ld27 := f27.get (by simp; omega) ld26
  have lv27 := f27.get (by simp; omega) lv26
  have n27 := f27.len
  clear va26 vb26 ca26 cb26 r26 hs26 ld26 lv26 po26 f27 g26 cells26
  have ob27 := va27.ob
  walk_at "pv"
  have hidx : ∃ i : Int, (at_ : Int) - (ps.length : Int) * r = i ∧ (if i < 0 then i + cn else i) = (at_ : Int) := by
    have : r = 0 ∨ r = 1 := by omega
    rcases this with rfl | rfl
    · exact ⟨_, rfl, by rw [Int.mul_zero, Int.sub_zero, if_neg (by omega)]⟩
    · exact ⟨_, rfl, by rw [Int.mul_one, if_pos (by omega)]; omega⟩
  obtain ⟨i, hi, hi2⟩ := hidx
  have hi3 : -cn ≤ i ∧ i < cn := by split at hi2 <;> omega
  rw [hi]
  refine setitem_ok (i := i) (x := x) va27 (L := bs.length) (bs := bs) (fun _ _ => ⟨ca27, vi2⟩) (by omega) w2 (fun _ _ _ _ _ _ d S28 f28 ca28 => ?_) (fun z => by cases z) (fun _ z => by cases z) (fun _ _ z => absurd hi3 z) (fun _ _ _ _ z => absurd ⟨x0, x1⟩ z)
  simp only at f28 ca28
  rw [hi2] at ca28
  have hxp : x < 256 ^ (plc st sp sz (at_ : Int)).length := by rw [hpl4, ← top_pow w2]; omega
  have hval := valB_giv rok x0 hxp
  have hback : valB bs (plc st sp sz (at_ : Int)) = x → givB bs (plc st sp sz (at_ : Int)) x = bs := fun z => by rw [← z]; exact giv_valB rok hby
  have hgl : (givB bs (plc st sp sz (at_ : Int)) x).length = bs.length := givB_len
  have hmem : plc st sp sz (at_ : Int) ∈ rowsOf st sp cn sz := by
    unfold rowsOf
    exact List.mem_map.mpr ⟨at_, List.mem_range.mpr (by omega), rfl⟩
  have hat2 : (rowsOf st sp cn sz)[at_]? = some (plc st sp sz (at_ : Int)) := by
    unfold rowsOf
    rw [List.getElem?_map, List.getElem?_range (by omega)]; rfl
  generalize hbs' : givB bs (plc st sp sz (at_ : Int)) x = bs' at *
  have g28 := f28.get (by simp; omega) g27
  have va28 : VA S28 pv ⟨lc, lw2, lo, false, false, st, sp, cn, sz⟩ := va27.fl f28 (by simp; exact ⟨_, ca27.at_⟩)
  have vb28 : VA S28 qv ⟨lc', lw5, lo', false, false, st, sp, cn, sz⟩ := vb27.fl f28 (by simp; exact ⟨_, ca27.at_⟩)
  have cb28 : Ce S28 lc' bs.length bs := cb27.fl f28 (by simp; omega)
  have r28 := r27.fr f28 (by simp)
  have hs28 : StA S28 s lc lo := f28.get (by simp; omega) hs27
  have ld28 := f28.get (by simp; omega) ld27
  have lv28 := f28.get (by simp; omega) lv27
  have po28 := po27.fr f28 (by simp; omega) (by simp; omega)
  have n28 := f28.len
  clear va27 vb27 ca27 cb27 r27 hs27 ld27 lv27 po27 g27 ob27 f28
  -- the bytes and the cell
  refine ot_cut (fun e S' => Fr [] S28 S' ∧ e = eP ns lp sz ld k s s' pv qv (some (.v (.ref lcs))) (some (.v (.ref lv))) (some (.v (.int at_))) (some (.v (.int x))) (some (.v (.ref dm))) x14 x15 none) ?_ ?_
  · walk_at "pv"
    refine storelisted_ok hs28 ca28.at_ fun S29 f29 h29 l29 => ?_
    walk_at "pv"
    refine same_ints h29 (f29.g0 g28) (by omega) fun S30 f30 => ?_
    have F30 := f29.trans f30
    have ob30 := (va28.f0 F30).ob
    walk_at "pvc"
    walk_at "pv"
    refine getitem_ok (va28.f0 F30) (ca28.f0 F30) vi2 (by omega) rfl (by omega) hatc fun S31 f31 => ?_
    walk_at "pv"
    rw [hval]
    refine same_int ?_
    walk_at "pvc"
    exact ⟨F30.trans f31, rfl⟩
  rintro e S32 ⟨f32, rfl⟩
  have va := va28.f0 f32
  have vb := vb28.f0 f32
  have ca := ca28.f0 f32
  have cb := cb28.f0 f32
  have r32 := r28.fr (L := []) f32 (by simp)
  have hsA := f32.g0 hs28
  have po32 := po28.f0 f32
  have ld32 := f32.g0 ld28
  have lv32 := f32.g0 lv28
  have g32 := f32.g0 g28
  clear va28 vb28 ca28 cb28 r28 hs28 po28 ld28 lv28 g28 f32
  -- in
  refine ot_cut (fun e S' => Fr [] S32 S' ∧ e = eP ns lp sz ld k s s' pv qv (some (.v (.ref lcs))) (some (.v (.ref lv))) (some (.v (.int at_))) (some (.v (.int x))) (some (.v (.ref dm))) x14 x15 none) ?_ ?_
  · have oba := va.ob
    walk_at "pv"
    refine contains_ok va ca vi2 (by omega) rfl x0 fun S33 f33 => ?_
    refine ⟨_, rfl, ?_⟩
    walk_at "pv"
    refine flag_ok (inV_mem (List.mem_map.mpr ⟨_, hmem, hval⟩)) ?_
    have obb := (vb.f0 f33).ob
    walk_at "pvc"
    walk_at "pv"
    refine contains_ok (vb.f0 f33) (cb.f0 f33) vib (by omega) rfl x0 fun S34 f34 => ?_
    refine ⟨_, rfl, ?_⟩
    walk_at "pv"
    refine rs_inLx (f34.g0 (f33.g0 lv32)) ?_
    walk_at "pv"
    refine flag_ok rfl ?_
    walk_at "pvc"
    exact ⟨f33.trans f34, rfl⟩
  rintro e S35 ⟨f35, rfl⟩
  have va := va.f0 f35
  have vb := vb.f0 f35
  have ca := ca.f0 f35
  have cb := cb.f0 f35
  have r35 := r32.fr (L := []) f35 (by simp)
  have hsA := f35.g0 hsA
  have po35 := po32.f0 f35
  have ld35 := f35.g0 ld32
  have g35 := f35.g0 g32
  clear r32 po32 ld32 lv32 g32 f35
  -- ==
  refine ot_cut (fun e S' => Fr [] S35 S' ∧ e = eP ns lp sz ld k s s' pv qv (some (.v (.ref lcs))) (some (.v (.ref lv))) (some (.v (.int at_))) (some (.v (.int x))) (some (.v (.ref dm))) x14 x15 none) ?_ ?_
  · have oba := va.ob
    have obb := vb.ob
    walk_at "pv"
    refine rs_own1 (isIns_of oba) (by unfold okR; dsimp only; rw [obb]; rfl) ?_
    refine eq_view (L := bs.length) (L2 := bs.length) (bs := bs') (bs2 := bs) va vb (fun _ _ => ⟨ca, vi2, cb, vib, rfl⟩) (by omega) (by omega) (fun z => by rcases z with z | z <;> cases z) fun _ _ S36 f36 => ?_
    walk_at "pv"
    refine rs_eqLL (f36.g0 g35) (f36.g0 ld35) ?_
    walk_at "pv"
    refine flag_ok ?_ ?_
    · rw [decide_eq_decide]
      constructor
      · intro z
        have z2 : ((rowsOf st sp cn sz).map (valB bs'))[at_]? = ((rowsOf st sp cn sz).map (valB bs))[at_]? := congrArg (fun l => l[at_]?) z
        rw [List.getElem?_map, List.getElem?_map, hat2] at z2
        simp only [Option.map_some, Option.some.injEq] at z2
        exact hback (by rw [← z2, hval])
      · rintro rfl; rfl
    walk_at "pvc"
    exact ⟨f36, rfl⟩
  rintro e S37 ⟨f37, rfl⟩
  have va := va.f0 f37
  have vb := vb.f0 f37
  have ca := ca.f0 f37
  have cb := cb.f0 f37
  have r37 := r35.fr (L := []) f37 (by simp)
  have hsA := f37.g0 hsA
  have po37 := po35.f0 f37
  clear r35 po35 ld35 g35 f37
  walk_at "pv"
  refine deeds_ok po37 (by omega) hsA va ca rfl vi2 (by omega) rfl rfl (by omega) r37 (by simp) fun S38 f38 va38 => ?_
  have vb38 : VA S38 qv ⟨lc', lw5, lo', false, false, st, sp, cn, sz⟩ := by
    obtain ⟨_, hx⟩ := po37.dic
    have hxb := ca.at_
    have hxa := va.ob
    have t1 := vb.ob
    have t2 := vb.wi
    unfold WiA at t2
    refine ⟨f38.get (fun z => ?_) t1, f38.get (fun z => ?_) t2⟩
    · simp at z
      rcases z with rfl | rfl | rfl
      · rw [hx] at t1; cases t1
      · rw [hxb] at t1; cases t1
      · omega
    · simp at z
      rcases z with z | z | z
      · rw [z, hx] at t2; cases t2
      · rw [z, hxb] at t2; cases t2
      · rw [z, hxa] at t2; cases t2
  have cb38 : Ce S38 lc' bs.length bs := by
    obtain ⟨_, hx⟩ := po37.dic
    have hxa := va.ob
    have t1 := cb.at_
    refine cb.fl f38 (fun z => ?_)
    simp at z
    rcases z with rfl | rfl | rfl
    · rw [hx] at t1; cases t1
    · omega
    · rw [hxa] at t1; cases t1
  refine ⟨_, rfl, fun _ => ?_, fun z => by cases z⟩
  walk_at "pv"
  refine gone_ok (bs := bs) (L := bs.length) vb38 (fun _ => ⟨cb38, vib⟩) (by omega) fun S39 f39 => ?_
  have oba := (va38.f0 f39).ob
  have obb := (vb38.f0 f39).ob
  walk_at "pv"
  refine rs_own1 (isIns_of obb) (by unfold okR; dsimp only; rw [oba]; rfl) ?_
  refine eq_view (L := bs.length) (L2 := bs.length) (bs := bs) (bs2 := bs) (vb38.f0 f39) (va38.f0 f39) (fun _ z => by cases z) (by omega) (by omega) (fun _ => ?_) (fun _ z => by cases z)
  exact ⟨_, rfl, rfl⟩
theorem law_pure (ns : List Int) (h : ns.length ≤ 63) : ∃ S', F_law [.lsf (ns.map D.int)] [] = .ok (.bl true) S' := by
  obtain ⟨d, S', h1, h2⟩ := (law_rs ns h []).ok
  exact ⟨S', by rw [h1, h2]⟩
end LbW
namespace LbW
open PySem PySem.Spec PyProof.Rows L2 Lb Pu
def spLaw (K : PySem.W.Frag) : Sp := fun vs H Q _ => ∃ (a : Addr) (ns : List Int), vs = [.ref a] ∧ SqF K H a (ns.map V.int) ∧ ns.length ≤ 63 ∧ ∀ H', Q (.bl true) H'
theorem law_imp {K : PySem.W.Frag} {cl : Nat → Addr} {vs : List V} {H : Hp} {Q : VK} {E : XK} (h : spLaw K vs H Q E) : FnP K cl 1 F_law vs H Q E := by
  obtain ⟨a, ns, rfl, hS, hl, k⟩ := h
  obtain ⟨S', e⟩ := law_pure ns hl
  exact law_fn hS e k
theorem all_mk {l : PySem.W.OpenLaw} {w : World} {K : PySem.W.Frag} {h : Heap} {mg : Str → Option Value} {fa c_BadNumber c_BadWindow c_BadCast c_BadIndex c_BadBytes c_Held c_Gone c_Locked c_BadValue c_Form c_Track c_Window c_View c_Store f_Form___init__ f_Form___add__ f_Form___sub__ f_Form___mul__ f_number_form f_Track___init__ f_Track_narrow f_Track_below f_Track_divide f_is_integer f_limited f_from_end f_chosen_cells f_cast_count f_Window___init__ f_Window_sliced f_Window_recast f_View___init__ f_View_alive f_View_check f_View_places_of f_View_value_at f_View_give f_View_index_of f_View_sliced f_View_cast f_View_listed f_View_during f_View___len__ f_View___getitem__ f_View___setitem__ f_View___contains__ f_View___eq__ f_Store___init__ f_Store_listed f_Store_lent f_Store_check_free f_Store_view f_Store_grow f__law_same f__law_draw f__law_value f__law_first f__law_raises f__law_grows f__law_during f__law_flag f__law_gone f__law_deeds f_law T_Window_sliced T_View_sliced KD_View_sliced k_TOPS f_BadNumber___init__ cda_BadNumber cc_BadNumber f_BadWindow___init__ cda_BadWindow cc_BadWindow f_BadIndex___init__ cda_BadIndex cc_BadIndex f_BadBytes___init__ cda_BadBytes cc_BadBytes f_BadValue___init__ cda_BadValue cc_BadValue p_View_alive : Addr} (X : K.In h) (G : h.Ns mainGlobals mg) (hfa : mg "law" = some (.ref fa))
    {od_Form___init__ an_Form___init__ od_Form___add__ an_Form___add__ od_Form___sub__ an_Form___sub__ od_Form___mul__ an_Form___mul__ od_number_form an_number_form od_Track___init__ an_Track___init__ od_Track_narrow an_Track_narrow od_Track_below an_Track_below od_Track_divide an_Track_divide od_is_integer an_is_integer od_limited an_limited od_from_end an_from_end od_chosen_cells an_chosen_cells od_cast_count an_cast_count od_Window___init__ an_Window___init__ od_Window_sliced an_Window_sliced od_Window_recast an_Window_recast od_View___init__ an_View___init__ od_View_alive an_View_alive od_View_check an_View_check od_View_places_of an_View_places_of od_View_value_at an_View_value_at od_View_give an_View_give od_View_index_of an_View_index_of od_View_sliced an_View_sliced od_View_cast an_View_cast od_View_listed an_View_listed od_View_during an_View_during od_View___len__ an_View___len__ od_View___getitem__ an_View___getitem__ od_View___setitem__ an_View___setitem__ od_View___contains__ an_View___contains__ od_View___eq__ an_View___eq__ od_Store___init__ an_Store___init__ od_Store_listed an_Store_listed od_Store_lent an_Store_lent od_Store_check_free an_Store_check_free od_Store_view an_Store_view od_Store_grow an_Store_grow od__law_same an__law_same od__law_draw an__law_draw od__law_value an__law_value od__law_first an__law_first od__law_raises an__law_raises od__law_grows an__law_grows od__law_during an__law_during od__law_flag an__law_flag od__law_gone an__law_gone od__law_deeds an__law_deeds od_law an_law od_BadNumber an_BadNumber cdd_BadNumber cld_BadNumber od_BadWindow an_BadWindow cdd_BadWindow cld_BadWindow od_BadIndex an_BadIndex cdd_BadIndex cld_BadIndex od_BadBytes an_BadBytes cdd_BadBytes cld_BadBytes od_BadValue an_BadValue cdd_BadValue cld_BadValue : Option Addr} {sl_Form___init__ sl_Form___add__ sl_Form___sub__ sl_Form___mul__ sl_number_form sl_Track___init__ sl_Track_narrow sl_Track_below sl_Track_divide sl_is_integer sl_limited sl_from_end sl_chosen_cells sl_cast_count sl_Window___init__ sl_Window_sliced sl_Window_recast sl_View___init__ sl_View_alive sl_View_check sl_View_places_of sl_View_value_at sl_View_give sl_View_index_of sl_View_sliced sl_View_cast sl_View_listed sl_View_during sl_View___len__ sl_View___getitem__ sl_View___setitem__ sl_View___contains__ sl_View___eq__ sl_Store___init__ sl_Store_listed sl_Store_lent sl_Store_check_free sl_Store_view sl_Store_grow sl__law_same sl__law_draw sl__law_value sl__law_first sl__law_raises sl__law_grows sl__law_during sl__law_flag sl__law_gone sl__law_deeds sl_law osl_BadNumber ccs_BadNumber csl_BadNumber osl_BadWindow ccs_BadWindow csl_BadWindow osl_BadIndex ccs_BadIndex csl_BadIndex osl_BadBytes ccs_BadBytes csl_BadBytes osl_BadValue ccs_BadValue csl_BadValue : Array (Option Value)} {oc_Form___init__ kV_Form___init__ dc_Form___init__ pm_Form___init__ cd_Form___init__ ct_Form___init__ oc_Form___add__ kV_Form___add__ dc_Form___add__ pm_Form___add__ cd_Form___add__ ct_Form___add__ oc_Form___sub__ kV_Form___sub__ dc_Form___sub__ pm_Form___sub__ cd_Form___sub__ ct_Form___sub__ oc_Form___mul__ kV_Form___mul__ dc_Form___mul__ pm_Form___mul__ cd_Form___mul__ ct_Form___mul__ oc_number_form kV_number_form dc_number_form pm_number_form cd_number_form ct_number_form oc_Track___init__ kV_Track___init__ dc_Track___init__ pm_Track___init__ cd_Track___init__ ct_Track___init__ oc_Track_narrow kV_Track_narrow dc_Track_narrow pm_Track_narrow cd_Track_narrow ct_Track_narrow oc_Track_below kV_Track_below dc_Track_below pm_Track_below cd_Track_below ct_Track_below oc_Track_divide kV_Track_divide dc_Track_divide pm_Track_divide cd_Track_divide ct_Track_divide oc_is_integer kV_is_integer dc_is_integer pm_is_integer cd_is_integer ct_is_integer oc_limited kV_limited dc_limited pm_limited cd_limited ct_limited oc_from_end kV_from_end dc_from_end pm_from_end cd_from_end ct_from_end oc_chosen_cells kV_chosen_cells dc_chosen_cells pm_chosen_cells cd_chosen_cells ct_chosen_cells oc_cast_count kV_cast_count dc_cast_count pm_cast_count cd_cast_count ct_cast_count oc_Window___init__ kV_Window___init__ dc_Window___init__ pm_Window___init__ cd_Window___init__ ct_Window___init__ oc_Window_sliced kV_Window_sliced dc_Window_sliced pm_Window_sliced cd_Window_sliced ct_Window_sliced oc_Window_recast kV_Window_recast dc_Window_recast pm_Window_recast cd_Window_recast ct_Window_recast oc_View___init__ kV_View___init__ dc_View___init__ pm_View___init__ cd_View___init__ ct_View___init__ oc_View_alive kV_View_alive dc_View_alive pm_View_alive cd_View_alive ct_View_alive oc_View_check kV_View_check dc_View_check pm_View_check cd_View_check ct_View_check oc_View_places_of kV_View_places_of dc_View_places_of pm_View_places_of cd_View_places_of ct_View_places_of oc_View_value_at kV_View_value_at dc_View_value_at pm_View_value_at cd_View_value_at ct_View_value_at oc_View_give kV_View_give dc_View_give pm_View_give cd_View_give ct_View_give oc_View_index_of kV_View_index_of dc_View_index_of pm_View_index_of cd_View_index_of ct_View_index_of oc_View_sliced  dc_View_sliced pm_View_sliced cd_View_sliced ct_View_sliced oc_View_cast kV_View_cast dc_View_cast pm_View_cast cd_View_cast ct_View_cast oc_View_listed kV_View_listed dc_View_listed pm_View_listed cd_View_listed ct_View_listed oc_View_during kV_View_during dc_View_during pm_View_during cd_View_during ct_View_during oc_View___len__ kV_View___len__ dc_View___len__ pm_View___len__ cd_View___len__ ct_View___len__ oc_View___getitem__ kV_View___getitem__ dc_View___getitem__ pm_View___getitem__ cd_View___getitem__ ct_View___getitem__ oc_View___setitem__ kV_View___setitem__ dc_View___setitem__ pm_View___setitem__ cd_View___setitem__ ct_View___setitem__ oc_View___contains__ kV_View___contains__ dc_View___contains__ pm_View___contains__ cd_View___contains__ ct_View___contains__ oc_View___eq__ kV_View___eq__ dc_View___eq__ pm_View___eq__ cd_View___eq__ ct_View___eq__ oc_Store___init__ kV_Store___init__ dc_Store___init__ pm_Store___init__ cd_Store___init__ ct_Store___init__ oc_Store_listed kV_Store_listed dc_Store_listed pm_Store_listed cd_Store_listed ct_Store_listed oc_Store_lent kV_Store_lent dc_Store_lent pm_Store_lent cd_Store_lent ct_Store_lent oc_Store_check_free kV_Store_check_free dc_Store_check_free pm_Store_check_free cd_Store_check_free ct_Store_check_free oc_Store_view kV_Store_view dc_Store_view pm_Store_view cd_Store_view ct_Store_view oc_Store_grow kV_Store_grow dc_Store_grow pm_Store_grow cd_Store_grow ct_Store_grow oc__law_same kV__law_same dc__law_same pm__law_same cd__law_same ct__law_same oc__law_draw kV__law_draw dc__law_draw pm__law_draw cd__law_draw ct__law_draw oc__law_value kV__law_value dc__law_value pm__law_value cd__law_value ct__law_value oc__law_first kV__law_first dc__law_first pm__law_first cd__law_first ct__law_first oc__law_raises kV__law_raises dc__law_raises pm__law_raises cd__law_raises ct__law_raises oc__law_grows kV__law_grows dc__law_grows pm__law_grows cd__law_grows ct__law_grows oc__law_during kV__law_during dc__law_during pm__law_during cd__law_during ct__law_during oc__law_flag kV__law_flag dc__law_flag pm__law_flag cd__law_flag ct__law_flag oc__law_gone kV__law_gone dc__law_gone pm__law_gone cd__law_gone ct__law_gone oc__law_deeds kV__law_deeds dc__law_deeds pm__law_deeds cd__law_deeds ct__law_deeds oc_law kV_law dc_law pm_law cd_law ct_law oc_BadNumber kV_BadNumber dc_BadNumber pm_BadNumber ct_BadNumber ccl_BadNumber cl_BadNumber oc_BadWindow kV_BadWindow dc_BadWindow pm_BadWindow ct_BadWindow ccl_BadWindow cl_BadWindow oc_BadIndex kV_BadIndex dc_BadIndex pm_BadIndex ct_BadIndex ccl_BadIndex cl_BadIndex oc_BadBytes kV_BadBytes dc_BadBytes pm_BadBytes ct_BadBytes ccl_BadBytes cl_BadBytes oc_BadValue kV_BadValue dc_BadValue pm_BadValue ct_BadValue ccl_BadValue cl_BadValue : Value}
    {fo1 fo2 : Option Value}
    {rest_View_alive : List Value}
    {tc_Window_sliced : Value} {td_Window_sliced : Option Addr} {dits_Window_sliced : Array Value} {dn_Window_sliced : Nat} {tsl_Window_sliced : Array (Option Value)}
    {tc_View_sliced : Value} {td_View_sliced : Option Addr} {dits_View_sliced : Array Value} {dn_View_sliced : Nat} {tsl_View_sliced : Array (Option Value)}
    {u_MOST_BYTES : Value}
    {kes_TOPS : Array DictEntry} {kn_TOPS : Nat}
    {cvs_BadNumber : Array Value} {file_BadNumber : Str} {tf_BadNumber : Tok} {cd_BadNumber : ClassData}
    {nm_BadNumber q_BadNumber : Str} {N_BadNumber : Addr} {bs_BadNumber bm_BadNumber : List Value} {sn_BadNumber : List Str} {sub_BadNumber : List Value} {ab_BadNumber : Bool} {col_BadNumber : Option Bool} {dd_BadNumber : Option Addr} {k0_BadNumber k1_BadNumber k2_BadNumber k3_BadNumber k5_BadNumber : Option Value}
    {cvs_BadWindow : Array Value} {file_BadWindow : Str} {tf_BadWindow : Tok} {cd_BadWindow : ClassData}
    {nm_BadWindow q_BadWindow : Str} {N_BadWindow : Addr} {bs_BadWindow bm_BadWindow : List Value} {sn_BadWindow : List Str} {sub_BadWindow : List Value} {ab_BadWindow : Bool} {col_BadWindow : Option Bool} {dd_BadWindow : Option Addr} {k0_BadWindow k1_BadWindow k2_BadWindow k3_BadWindow k5_BadWindow : Option Value}
    {cvs_BadIndex : Array Value} {file_BadIndex : Str} {tf_BadIndex : Tok} {cd_BadIndex : ClassData}
    {nm_BadIndex q_BadIndex : Str} {N_BadIndex : Addr} {bs_BadIndex bm_BadIndex : List Value} {sn_BadIndex : List Str} {sub_BadIndex : List Value} {ab_BadIndex : Bool} {col_BadIndex : Option Bool} {dd_BadIndex : Option Addr} {k0_BadIndex k1_BadIndex k2_BadIndex k3_BadIndex k5_BadIndex : Option Value}
    {cvs_BadBytes : Array Value} {file_BadBytes : Str} {tf_BadBytes : Tok} {cd_BadBytes : ClassData}
    {nm_BadBytes q_BadBytes : Str} {N_BadBytes : Addr} {bs_BadBytes bm_BadBytes : List Value} {sn_BadBytes : List Str} {sub_BadBytes : List Value} {ab_BadBytes : Bool} {col_BadBytes : Option Bool} {dd_BadBytes : Option Addr} {k0_BadBytes k1_BadBytes k2_BadBytes k3_BadBytes k5_BadBytes : Option Value}
    {cvs_BadValue : Array Value} {file_BadValue : Str} {tf_BadValue : Tok} {cd_BadValue : ClassData}
    {nm_BadValue q_BadValue : Str} {N_BadValue : Addr} {bs_BadValue bm_BadValue : List Value} {sn_BadValue : List Str} {sub_BadValue : List Value} {ab_BadValue : Bool} {col_BadValue : Option Bool} {dd_BadValue : Option Addr} {k0_BadValue k1_BadValue k2_BadValue k3_BadValue k5_BadValue : Option Value}
    (a_BadNumber : PySem.W.nsIn K mainGlobals "BadNumber" = some (some (.ref c_BadNumber)))
    (a_BadWindow : PySem.W.nsIn K mainGlobals "BadWindow" = some (some (.ref c_BadWindow)))
    (a_BadCast : PySem.W.nsIn K mainGlobals "BadCast" = some (some (.ref c_BadCast)))
    (a_BadIndex : PySem.W.nsIn K mainGlobals "BadIndex" = some (some (.ref c_BadIndex)))
    (a_BadBytes : PySem.W.nsIn K mainGlobals "BadBytes" = some (some (.ref c_BadBytes)))
    (a_Held : PySem.W.nsIn K mainGlobals "Held" = some (some (.ref c_Held)))
    (a_Gone : PySem.W.nsIn K mainGlobals "Gone" = some (some (.ref c_Gone)))
    (a_Locked : PySem.W.nsIn K mainGlobals "Locked" = some (some (.ref c_Locked)))
    (a_BadValue : PySem.W.nsIn K mainGlobals "BadValue" = some (some (.ref c_BadValue)))
    (a_Form : PySem.W.nsIn K mainGlobals "Form" = some (some (.ref c_Form)))
    (pg_Form : PySem.W.plainGet K c_Form Str.empty = true)
    (hd_Form : PySem.W.hasDictIn K c_Form = true)
    (po_Form : PySem.W.plainOver K c_Form = true)
    (sa_Form : PySem.W.findIn K (.ref c_Form) "__setattr__" = some (some (.builtin "object.__setattr__")))
    (mk_Form : PySem.W.makesIn K c_Form = true)
    (kc_Form : PySem.W.keepIn K (.ref c_Form) = true)
    (na_Form_alpha : PySem.W.findIn K (.ref c_Form) "alpha" = some none)
    (na_Form_beta : PySem.W.findIn K (.ref c_Form) "beta" = some none)
    (i1_Form : PySem.W.findIn K (.ref c_Form) "__class__" = some (some (.builtin "object.__class__")))
    (i2_Form : PySem.W.specialIn K (.builtin "object.__class__") "__get__" = some (some (.builtin "getset_descriptor.__get__")))
    (i3_Form : PySem.W.takesIn K (.builtin "object.__class__") = some true)
    (i4_Form : PySem.W.mroIn K c_Form (.type "object") = some true)
    (i5_Form : PySem.W.kitOne K (.ref c_Form) (.ref c_Form) = some true)
    (a_Track : PySem.W.nsIn K mainGlobals "Track" = some (some (.ref c_Track)))
    (pg_Track : PySem.W.plainGet K c_Track Str.empty = true)
    (hd_Track : PySem.W.hasDictIn K c_Track = true)
    (po_Track : PySem.W.plainOver K c_Track = true)
    (sa_Track : PySem.W.findIn K (.ref c_Track) "__setattr__" = some (some (.builtin "object.__setattr__")))
    (mk_Track : PySem.W.makesIn K c_Track = true)
    (kc_Track : PySem.W.keepIn K (.ref c_Track) = true)
    (na_Track_until : PySem.W.findIn K (.ref c_Track) "until" = some none)
    (i1_Track : PySem.W.findIn K (.ref c_Track) "__class__" = some (some (.builtin "object.__class__")))
    (i2_Track : PySem.W.specialIn K (.builtin "object.__class__") "__get__" = some (some (.builtin "getset_descriptor.__get__")))
    (i3_Track : PySem.W.takesIn K (.builtin "object.__class__") = some true)
    (i4_Track : PySem.W.mroIn K c_Track (.type "object") = some true)
    (i5_Track : PySem.W.kitOne K (.ref c_Track) (.ref c_Track) = some true)
    (a_Window : PySem.W.nsIn K mainGlobals "Window" = some (some (.ref c_Window)))
    (pg_Window : PySem.W.plainGet K c_Window Str.empty = true)
    (hd_Window : PySem.W.hasDictIn K c_Window = true)
    (po_Window : PySem.W.plainOver K c_Window = true)
    (sa_Window : PySem.W.findIn K (.ref c_Window) "__setattr__" = some (some (.builtin "object.__setattr__")))
    (mk_Window : PySem.W.makesIn K c_Window = true)
    (kc_Window : PySem.W.keepIn K (.ref c_Window) = true)
    (na_Window_start : PySem.W.findIn K (.ref c_Window) "start" = some none)
    (na_Window_step : PySem.W.findIn K (.ref c_Window) "step" = some none)
    (na_Window_count : PySem.W.findIn K (.ref c_Window) "count" = some none)
    (na_Window_size : PySem.W.findIn K (.ref c_Window) "size" = some none)
    (i1_Window : PySem.W.findIn K (.ref c_Window) "__class__" = some (some (.builtin "object.__class__")))
    (i2_Window : PySem.W.specialIn K (.builtin "object.__class__") "__get__" = some (some (.builtin "getset_descriptor.__get__")))
    (i3_Window : PySem.W.takesIn K (.builtin "object.__class__") = some true)
    (i4_Window : PySem.W.mroIn K c_Window (.type "object") = some true)
    (i5_Window : PySem.W.kitOne K (.ref c_Window) (.ref c_Window) = some true)
    (a_View : PySem.W.nsIn K mainGlobals "View" = some (some (.ref c_View)))
    (pg_View : PySem.W.plainGet K c_View Str.empty = true)
    (hd_View : PySem.W.hasDictIn K c_View = true)
    (po_View : PySem.W.plainOver K c_View = true)
    (sa_View : PySem.W.findIn K (.ref c_View) "__setattr__" = some (some (.builtin "object.__setattr__")))
    (mk_View : PySem.W.makesIn K c_View = true)
    (kc_View : PySem.W.keepIn K (.ref c_View) = true)
    (na_View_cells : PySem.W.findIn K (.ref c_View) "cells" = some none)
    (na_View_window : PySem.W.findIn K (.ref c_View) "window" = some none)
    (na_View_locked : PySem.W.findIn K (.ref c_View) "locked" = some none)
    (na_View_size : PySem.W.findIn K (.ref c_View) "size" = some none)
    (na_View_lent_out : PySem.W.findIn K (.ref c_View) "lent_out" = some none)
    (na_View_closed : PySem.W.findIn K (.ref c_View) "closed" = some none)
    (i1_View : PySem.W.findIn K (.ref c_View) "__class__" = some (some (.builtin "object.__class__")))
    (i2_View : PySem.W.specialIn K (.builtin "object.__class__") "__get__" = some (some (.builtin "getset_descriptor.__get__")))
    (i3_View : PySem.W.takesIn K (.builtin "object.__class__") = some true)
    (i4_View : PySem.W.mroIn K c_View (.type "object") = some true)
    (i5_View : PySem.W.kitOne K (.ref c_View) (.ref c_View) = some true)
    (a_Store : PySem.W.nsIn K mainGlobals "Store" = some (some (.ref c_Store)))
    (pg_Store : PySem.W.plainGet K c_Store Str.empty = true)
    (hd_Store : PySem.W.hasDictIn K c_Store = true)
    (po_Store : PySem.W.plainOver K c_Store = true)
    (sa_Store : PySem.W.findIn K (.ref c_Store) "__setattr__" = some (some (.builtin "object.__setattr__")))
    (mk_Store : PySem.W.makesIn K c_Store = true)
    (kc_Store : PySem.W.keepIn K (.ref c_Store) = true)
    (na_Store_cells : PySem.W.findIn K (.ref c_Store) "cells" = some none)
    (na_Store_lent_out : PySem.W.findIn K (.ref c_Store) "lent_out" = some none)
    (i1_Store : PySem.W.findIn K (.ref c_Store) "__class__" = some (some (.builtin "object.__class__")))
    (i2_Store : PySem.W.specialIn K (.builtin "object.__class__") "__get__" = some (some (.builtin "getset_descriptor.__get__")))
    (i3_Store : PySem.W.takesIn K (.builtin "object.__class__") = some true)
    (i4_Store : PySem.W.mroIn K c_Store (.type "object") = some true)
    (i5_Store : PySem.W.kitOne K (.ref c_Store) (.ref c_Store) = some true)
    (a_Form___init__ : PySem.W.findIn K (.ref c_Form) "__init__" = some (some (.ref f_Form___init__)))
    (i_Form___init__ : PySem.W.isFn K (.ref f_Form___init__) = true)
    (l_Form___init__ : K.lookup f_Form___init__ = some ⟨oc_Form___init__, od_Form___init__, .func (PySem.W.fnOf "__init__" "Form.__init__" (defArgs s_Form___init__) (defBody s_Form___init__) (defScope s_Form___init__) .none kV_Form___init__ dc_Form___init__ pm_Form___init__ an_Form___init__ cd_Form___init__ ct_Form___init__), sl_Form___init__⟩)
    (c_Form___init__ : PySem.W.codeIn K cd_Form___init__ "Form.__init__" = true)
    (k_Form___init__ : PySem.W.keepIn K (.ref f_Form___init__) = true)
    (a_Form___add__ : PySem.W.findIn K (.ref c_Form) "__add__" = some (some (.ref f_Form___add__)))
    (i_Form___add__ : PySem.W.isFn K (.ref f_Form___add__) = true)
    (l_Form___add__ : K.lookup f_Form___add__ = some ⟨oc_Form___add__, od_Form___add__, .func (PySem.W.fnOf "__add__" "Form.__add__" (defArgs s_Form___add__) (defBody s_Form___add__) (defScope s_Form___add__) .none kV_Form___add__ dc_Form___add__ pm_Form___add__ an_Form___add__ cd_Form___add__ ct_Form___add__), sl_Form___add__⟩)
    (c_Form___add__ : PySem.W.codeIn K cd_Form___add__ "Form.__add__" = true)
    (k_Form___add__ : PySem.W.keepIn K (.ref f_Form___add__) = true)
    (a_Form___sub__ : PySem.W.findIn K (.ref c_Form) "__sub__" = some (some (.ref f_Form___sub__)))
    (i_Form___sub__ : PySem.W.isFn K (.ref f_Form___sub__) = true)
    (l_Form___sub__ : K.lookup f_Form___sub__ = some ⟨oc_Form___sub__, od_Form___sub__, .func (PySem.W.fnOf "__sub__" "Form.__sub__" (defArgs s_Form___sub__) (defBody s_Form___sub__) (defScope s_Form___sub__) .none kV_Form___sub__ dc_Form___sub__ pm_Form___sub__ an_Form___sub__ cd_Form___sub__ ct_Form___sub__), sl_Form___sub__⟩)
    (c_Form___sub__ : PySem.W.codeIn K cd_Form___sub__ "Form.__sub__" = true)
    (k_Form___sub__ : PySem.W.keepIn K (.ref f_Form___sub__) = true)
    (a_Form___mul__ : PySem.W.findIn K (.ref c_Form) "__mul__" = some (some (.ref f_Form___mul__)))
    (i_Form___mul__ : PySem.W.isFn K (.ref f_Form___mul__) = true)
    (l_Form___mul__ : K.lookup f_Form___mul__ = some ⟨oc_Form___mul__, od_Form___mul__, .func (PySem.W.fnOf "__mul__" "Form.__mul__" (defArgs s_Form___mul__) (defBody s_Form___mul__) (defScope s_Form___mul__) .none kV_Form___mul__ dc_Form___mul__ pm_Form___mul__ an_Form___mul__ cd_Form___mul__ ct_Form___mul__), sl_Form___mul__⟩)
    (c_Form___mul__ : PySem.W.codeIn K cd_Form___mul__ "Form.__mul__" = true)
    (k_Form___mul__ : PySem.W.keepIn K (.ref f_Form___mul__) = true)
    (a_number_form : PySem.W.nsIn K mainGlobals "number_form" = some (some (.ref f_number_form)))
    (l_number_form : K.lookup f_number_form = some ⟨oc_number_form, od_number_form, .func (PySem.W.fnOf "number_form" "number_form" (defArgs s_number_form) (defBody s_number_form) (defScope s_number_form) .none kV_number_form dc_number_form pm_number_form an_number_form cd_number_form ct_number_form), sl_number_form⟩)
    (c_number_form : PySem.W.codeIn K cd_number_form "number_form" = true)
    (k_number_form : PySem.W.keepIn K (.ref f_number_form) = true)
    (a_Track___init__ : PySem.W.findIn K (.ref c_Track) "__init__" = some (some (.ref f_Track___init__)))
    (i_Track___init__ : PySem.W.isFn K (.ref f_Track___init__) = true)
    (l_Track___init__ : K.lookup f_Track___init__ = some ⟨oc_Track___init__, od_Track___init__, .func (PySem.W.fnOf "__init__" "Track.__init__" (defArgs s_Track___init__) (defBody s_Track___init__) (defScope s_Track___init__) .none kV_Track___init__ dc_Track___init__ pm_Track___init__ an_Track___init__ cd_Track___init__ ct_Track___init__), sl_Track___init__⟩)
    (c_Track___init__ : PySem.W.codeIn K cd_Track___init__ "Track.__init__" = true)
    (k_Track___init__ : PySem.W.keepIn K (.ref f_Track___init__) = true)
    (a_Track_narrow : PySem.W.findIn K (.ref c_Track) "narrow" = some (some (.ref f_Track_narrow)))
    (i_Track_narrow : PySem.W.isFn K (.ref f_Track_narrow) = true)
    (l_Track_narrow : K.lookup f_Track_narrow = some ⟨oc_Track_narrow, od_Track_narrow, .func (PySem.W.fnOf "narrow" "Track.narrow" (defArgs s_Track_narrow) (defBody s_Track_narrow) (defScope s_Track_narrow) .none kV_Track_narrow dc_Track_narrow pm_Track_narrow an_Track_narrow cd_Track_narrow ct_Track_narrow), sl_Track_narrow⟩)
    (c_Track_narrow : PySem.W.codeIn K cd_Track_narrow "Track.narrow" = true)
    (k_Track_narrow : PySem.W.keepIn K (.ref f_Track_narrow) = true)
    (a_Track_below : PySem.W.findIn K (.ref c_Track) "below" = some (some (.ref f_Track_below)))
    (i_Track_below : PySem.W.isFn K (.ref f_Track_below) = true)
    (l_Track_below : K.lookup f_Track_below = some ⟨oc_Track_below, od_Track_below, .func (PySem.W.fnOf "below" "Track.below" (defArgs s_Track_below) (defBody s_Track_below) (defScope s_Track_below) .none kV_Track_below dc_Track_below pm_Track_below an_Track_below cd_Track_below ct_Track_below), sl_Track_below⟩)
    (c_Track_below : PySem.W.codeIn K cd_Track_below "Track.below" = true)
    (k_Track_below : PySem.W.keepIn K (.ref f_Track_below) = true)
    (a_Track_divide : PySem.W.findIn K (.ref c_Track) "divide" = some (some (.ref f_Track_divide)))
    (i_Track_divide : PySem.W.isFn K (.ref f_Track_divide) = true)
    (l_Track_divide : K.lookup f_Track_divide = some ⟨oc_Track_divide, od_Track_divide, .func (PySem.W.fnOf "divide" "Track.divide" (defArgs s_Track_divide) (defBody s_Track_divide) (defScope s_Track_divide) .none kV_Track_divide dc_Track_divide pm_Track_divide an_Track_divide cd_Track_divide ct_Track_divide), sl_Track_divide⟩)
    (c_Track_divide : PySem.W.codeIn K cd_Track_divide "Track.divide" = true)
    (k_Track_divide : PySem.W.keepIn K (.ref f_Track_divide) = true)
    (a_is_integer : PySem.W.nsIn K mainGlobals "is_integer" = some (some (.ref f_is_integer)))
    (l_is_integer : K.lookup f_is_integer = some ⟨oc_is_integer, od_is_integer, .func (PySem.W.fnOf "is_integer" "is_integer" (defArgs s_is_integer) (defBody s_is_integer) (defScope s_is_integer) .none kV_is_integer dc_is_integer pm_is_integer an_is_integer cd_is_integer ct_is_integer), sl_is_integer⟩)
    (c_is_integer : PySem.W.codeIn K cd_is_integer "is_integer" = true)
    (k_is_integer : PySem.W.keepIn K (.ref f_is_integer) = true)
    (a_limited : PySem.W.nsIn K mainGlobals "limited" = some (some (.ref f_limited)))
    (l_limited : K.lookup f_limited = some ⟨oc_limited, od_limited, .func (PySem.W.fnOf "limited" "limited" (defArgs s_limited) (defBody s_limited) (defScope s_limited) .none kV_limited dc_limited pm_limited an_limited cd_limited ct_limited), sl_limited⟩)
    (c_limited : PySem.W.codeIn K cd_limited "limited" = true)
    (k_limited : PySem.W.keepIn K (.ref f_limited) = true)
    (a_from_end : PySem.W.nsIn K mainGlobals "from_end" = some (some (.ref f_from_end)))
    (l_from_end : K.lookup f_from_end = some ⟨oc_from_end, od_from_end, .func (PySem.W.fnOf "from_end" "from_end" (defArgs s_from_end) (defBody s_from_end) (defScope s_from_end) .none kV_from_end dc_from_end pm_from_end an_from_end cd_from_end ct_from_end), sl_from_end⟩)
    (c_from_end : PySem.W.codeIn K cd_from_end "from_end" = true)
    (k_from_end : PySem.W.keepIn K (.ref f_from_end) = true)
    (a_chosen_cells : PySem.W.nsIn K mainGlobals "chosen_cells" = some (some (.ref f_chosen_cells)))
    (l_chosen_cells : K.lookup f_chosen_cells = some ⟨oc_chosen_cells, od_chosen_cells, .func (PySem.W.fnOf "chosen_cells" "chosen_cells" (defArgs s_chosen_cells) (defBody s_chosen_cells) (defScope s_chosen_cells) .none kV_chosen_cells dc_chosen_cells pm_chosen_cells an_chosen_cells cd_chosen_cells ct_chosen_cells), sl_chosen_cells⟩)
    (c_chosen_cells : PySem.W.codeIn K cd_chosen_cells "chosen_cells" = true)
    (k_chosen_cells : PySem.W.keepIn K (.ref f_chosen_cells) = true)
    (a_cast_count : PySem.W.nsIn K mainGlobals "cast_count" = some (some (.ref f_cast_count)))
    (l_cast_count : K.lookup f_cast_count = some ⟨oc_cast_count, od_cast_count, .func (PySem.W.fnOf "cast_count" "cast_count" (defArgs s_cast_count) (defBody s_cast_count) (defScope s_cast_count) .none kV_cast_count dc_cast_count pm_cast_count an_cast_count cd_cast_count ct_cast_count), sl_cast_count⟩)
    (c_cast_count : PySem.W.codeIn K cd_cast_count "cast_count" = true)
    (k_cast_count : PySem.W.keepIn K (.ref f_cast_count) = true)
    (a_Window___init__ : PySem.W.findIn K (.ref c_Window) "__init__" = some (some (.ref f_Window___init__)))
    (i_Window___init__ : PySem.W.isFn K (.ref f_Window___init__) = true)
    (l_Window___init__ : K.lookup f_Window___init__ = some ⟨oc_Window___init__, od_Window___init__, .func (PySem.W.fnOf "__init__" "Window.__init__" (defArgs s_Window___init__) (defBody s_Window___init__) (defScope s_Window___init__) .none kV_Window___init__ dc_Window___init__ pm_Window___init__ an_Window___init__ cd_Window___init__ ct_Window___init__), sl_Window___init__⟩)
    (c_Window___init__ : PySem.W.codeIn K cd_Window___init__ "Window.__init__" = true)
    (k_Window___init__ : PySem.W.keepIn K (.ref f_Window___init__) = true)
    (a_Window_sliced : PySem.W.findIn K (.ref c_Window) "sliced" = some (some (.ref f_Window_sliced)))
    (i_Window_sliced : PySem.W.isFn K (.ref f_Window_sliced) = true)
    (l_Window_sliced : K.lookup f_Window_sliced = some ⟨oc_Window_sliced, od_Window_sliced, .func (PySem.W.fnOf "sliced" "Window.sliced" (defArgs s_Window_sliced) (defBody s_Window_sliced) (defScope s_Window_sliced) (.ref T_Window_sliced) kV_Window_sliced dc_Window_sliced pm_Window_sliced an_Window_sliced cd_Window_sliced ct_Window_sliced), sl_Window_sliced⟩)
    (dl_Window_sliced : K.lookup T_Window_sliced = some ⟨tc_Window_sliced, td_Window_sliced, .seq dits_Window_sliced dn_Window_sliced, tsl_Window_sliced⟩)
    (dv_Window_sliced : Vals [.non, .non, .non] dits_Window_sliced.toList)
    (c_Window_sliced : PySem.W.codeIn K cd_Window_sliced "Window.sliced" = true)
    (k_Window_sliced : PySem.W.keepIn K (.ref f_Window_sliced) = true)
    (a_Window_recast : PySem.W.findIn K (.ref c_Window) "recast" = some (some (.ref f_Window_recast)))
    (i_Window_recast : PySem.W.isFn K (.ref f_Window_recast) = true)
    (l_Window_recast : K.lookup f_Window_recast = some ⟨oc_Window_recast, od_Window_recast, .func (PySem.W.fnOf "recast" "Window.recast" (defArgs s_Window_recast) (defBody s_Window_recast) (defScope s_Window_recast) .none kV_Window_recast dc_Window_recast pm_Window_recast an_Window_recast cd_Window_recast ct_Window_recast), sl_Window_recast⟩)
    (c_Window_recast : PySem.W.codeIn K cd_Window_recast "Window.recast" = true)
    (k_Window_recast : PySem.W.keepIn K (.ref f_Window_recast) = true)
    (a_View___init__ : PySem.W.findIn K (.ref c_View) "__init__" = some (some (.ref f_View___init__)))
    (i_View___init__ : PySem.W.isFn K (.ref f_View___init__) = true)
    (l_View___init__ : K.lookup f_View___init__ = some ⟨oc_View___init__, od_View___init__, .func (PySem.W.fnOf "__init__" "View.__init__" (defArgs s_View___init__) (defBody s_View___init__) (defScope s_View___init__) .none kV_View___init__ dc_View___init__ pm_View___init__ an_View___init__ cd_View___init__ ct_View___init__), sl_View___init__⟩)
    (c_View___init__ : PySem.W.codeIn K cd_View___init__ "View.__init__" = true)
    (k_View___init__ : PySem.W.keepIn K (.ref f_View___init__) = true)
    (a_View_alive : PySem.W.findIn K (.ref c_View) "alive" = some (some (.ref p_View_alive)))
    (gp_View_alive : PySem.W.specialIn K (.ref p_View_alive) "__get__" = some (some (.builtin "property.__get__")))
    (tp_View_alive : PySem.W.takesIn K (.ref p_View_alive) = some true)
    (rp_View_alive : PySem.W.recIn K p_View_alive "property" = some (.ref f_View_alive :: rest_View_alive))
    (l_View_alive : K.lookup f_View_alive = some ⟨oc_View_alive, od_View_alive, .func (PySem.W.fnOf "alive" "View.alive" (defArgs s_View_alive) (defBody s_View_alive) (defScope s_View_alive) .none kV_View_alive dc_View_alive pm_View_alive an_View_alive cd_View_alive ct_View_alive), sl_View_alive⟩)
    (c_View_alive : PySem.W.codeIn K cd_View_alive "View.alive" = true)
    (k_View_alive : PySem.W.keepIn K (.ref f_View_alive) = true)
    (a_View_check : PySem.W.findIn K (.ref c_View) "check" = some (some (.ref f_View_check)))
    (i_View_check : PySem.W.isFn K (.ref f_View_check) = true)
    (l_View_check : K.lookup f_View_check = some ⟨oc_View_check, od_View_check, .func (PySem.W.fnOf "check" "View.check" (defArgs s_View_check) (defBody s_View_check) (defScope s_View_check) .none kV_View_check dc_View_check pm_View_check an_View_check cd_View_check ct_View_check), sl_View_check⟩)
    (c_View_check : PySem.W.codeIn K cd_View_check "View.check" = true)
    (k_View_check : PySem.W.keepIn K (.ref f_View_check) = true)
    (a_View_places_of : PySem.W.findIn K (.ref c_View) "places_of" = some (some (.ref f_View_places_of)))
    (i_View_places_of : PySem.W.isFn K (.ref f_View_places_of) = true)
    (l_View_places_of : K.lookup f_View_places_of = some ⟨oc_View_places_of, od_View_places_of, .func (PySem.W.fnOf "places_of" "View.places_of" (defArgs s_View_places_of) (defBody s_View_places_of) (defScope s_View_places_of) .none kV_View_places_of dc_View_places_of pm_View_places_of an_View_places_of cd_View_places_of ct_View_places_of), sl_View_places_of⟩)
    (c_View_places_of : PySem.W.codeIn K cd_View_places_of "View.places_of" = true)
    (k_View_places_of : PySem.W.keepIn K (.ref f_View_places_of) = true)
    (a_View_value_at : PySem.W.findIn K (.ref c_View) "value_at" = some (some (.ref f_View_value_at)))
    (i_View_value_at : PySem.W.isFn K (.ref f_View_value_at) = true)
    (l_View_value_at : K.lookup f_View_value_at = some ⟨oc_View_value_at, od_View_value_at, .func (PySem.W.fnOf "value_at" "View.value_at" (defArgs s_View_value_at) (defBody s_View_value_at) (defScope s_View_value_at) .none kV_View_value_at dc_View_value_at pm_View_value_at an_View_value_at cd_View_value_at ct_View_value_at), sl_View_value_at⟩)
    (c_View_value_at : PySem.W.codeIn K cd_View_value_at "View.value_at" = true)
    (k_View_value_at : PySem.W.keepIn K (.ref f_View_value_at) = true)
    (a_View_give : PySem.W.findIn K (.ref c_View) "give" = some (some (.ref f_View_give)))
    (i_View_give : PySem.W.isFn K (.ref f_View_give) = true)
    (l_View_give : K.lookup f_View_give = some ⟨oc_View_give, od_View_give, .func (PySem.W.fnOf "give" "View.give" (defArgs s_View_give) (defBody s_View_give) (defScope s_View_give) .none kV_View_give dc_View_give pm_View_give an_View_give cd_View_give ct_View_give), sl_View_give⟩)
    (c_View_give : PySem.W.codeIn K cd_View_give "View.give" = true)
    (k_View_give : PySem.W.keepIn K (.ref f_View_give) = true)
    (a_View_index_of : PySem.W.findIn K (.ref c_View) "index_of" = some (some (.ref f_View_index_of)))
    (i_View_index_of : PySem.W.isFn K (.ref f_View_index_of) = true)
    (l_View_index_of : K.lookup f_View_index_of = some ⟨oc_View_index_of, od_View_index_of, .func (PySem.W.fnOf "index_of" "View.index_of" (defArgs s_View_index_of) (defBody s_View_index_of) (defScope s_View_index_of) .none kV_View_index_of dc_View_index_of pm_View_index_of an_View_index_of cd_View_index_of ct_View_index_of), sl_View_index_of⟩)
    (c_View_index_of : PySem.W.codeIn K cd_View_index_of "View.index_of" = true)
    (k_View_index_of : PySem.W.keepIn K (.ref f_View_index_of) = true)
    (a_View_sliced : PySem.W.findIn K (.ref c_View) "sliced" = some (some (.ref f_View_sliced)))
    (i_View_sliced : PySem.W.isFn K (.ref f_View_sliced) = true)
    (l_View_sliced : K.lookup f_View_sliced = some ⟨oc_View_sliced, od_View_sliced, .func (PySem.W.fnOf "sliced" "View.sliced" (defArgs s_View_sliced) (defBody s_View_sliced) (defScope s_View_sliced) (.ref T_View_sliced) (.ref KD_View_sliced) dc_View_sliced pm_View_sliced an_View_sliced cd_View_sliced ct_View_sliced), sl_View_sliced⟩)
    (kd_View_sliced : PySem.W.nsIn K KD_View_sliced "step" = some (some .none))
    (dl_View_sliced : K.lookup T_View_sliced = some ⟨tc_View_sliced, td_View_sliced, .seq dits_View_sliced dn_View_sliced, tsl_View_sliced⟩)
    (dv_View_sliced : Vals [.non, .non] dits_View_sliced.toList)
    (c_View_sliced : PySem.W.codeIn K cd_View_sliced "View.sliced" = true)
    (k_View_sliced : PySem.W.keepIn K (.ref f_View_sliced) = true)
    (a_View_cast : PySem.W.findIn K (.ref c_View) "cast" = some (some (.ref f_View_cast)))
    (i_View_cast : PySem.W.isFn K (.ref f_View_cast) = true)
    (l_View_cast : K.lookup f_View_cast = some ⟨oc_View_cast, od_View_cast, .func (PySem.W.fnOf "cast" "View.cast" (defArgs s_View_cast) (defBody s_View_cast) (defScope s_View_cast) .none kV_View_cast dc_View_cast pm_View_cast an_View_cast cd_View_cast ct_View_cast), sl_View_cast⟩)
    (c_View_cast : PySem.W.codeIn K cd_View_cast "View.cast" = true)
    (k_View_cast : PySem.W.keepIn K (.ref f_View_cast) = true)
    (a_View_listed : PySem.W.findIn K (.ref c_View) "listed" = some (some (.ref f_View_listed)))
    (i_View_listed : PySem.W.isFn K (.ref f_View_listed) = true)
    (l_View_listed : K.lookup f_View_listed = some ⟨oc_View_listed, od_View_listed, .func (PySem.W.fnOf "listed" "View.listed" (defArgs s_View_listed) (defBody s_View_listed) (defScope s_View_listed) .none kV_View_listed dc_View_listed pm_View_listed an_View_listed cd_View_listed ct_View_listed), sl_View_listed⟩)
    (c_View_listed : PySem.W.codeIn K cd_View_listed "View.listed" = true)
    (k_View_listed : PySem.W.keepIn K (.ref f_View_listed) = true)
    (a_View_during : PySem.W.findIn K (.ref c_View) "during" = some (some (.ref f_View_during)))
    (i_View_during : PySem.W.isFn K (.ref f_View_during) = true)
    (l_View_during : K.lookup f_View_during = some ⟨oc_View_during, od_View_during, .func (PySem.W.fnOf "during" "View.during" (defArgs s_View_during) (defBody s_View_during) (defScope s_View_during) .none kV_View_during dc_View_during pm_View_during an_View_during cd_View_during ct_View_during), sl_View_during⟩)
    (c_View_during : PySem.W.codeIn K cd_View_during "View.during" = true)
    (k_View_during : PySem.W.keepIn K (.ref f_View_during) = true)
    (a_View___len__ : PySem.W.findIn K (.ref c_View) "__len__" = some (some (.ref f_View___len__)))
    (i_View___len__ : PySem.W.isFn K (.ref f_View___len__) = true)
    (l_View___len__ : K.lookup f_View___len__ = some ⟨oc_View___len__, od_View___len__, .func (PySem.W.fnOf "__len__" "View.__len__" (defArgs s_View___len__) (defBody s_View___len__) (defScope s_View___len__) .none kV_View___len__ dc_View___len__ pm_View___len__ an_View___len__ cd_View___len__ ct_View___len__), sl_View___len__⟩)
    (c_View___len__ : PySem.W.codeIn K cd_View___len__ "View.__len__" = true)
    (k_View___len__ : PySem.W.keepIn K (.ref f_View___len__) = true)
    (a_View___getitem__ : PySem.W.findIn K (.ref c_View) "__getitem__" = some (some (.ref f_View___getitem__)))
    (i_View___getitem__ : PySem.W.isFn K (.ref f_View___getitem__) = true)
    (l_View___getitem__ : K.lookup f_View___getitem__ = some ⟨oc_View___getitem__, od_View___getitem__, .func (PySem.W.fnOf "__getitem__" "View.__getitem__" (defArgs s_View___getitem__) (defBody s_View___getitem__) (defScope s_View___getitem__) .none kV_View___getitem__ dc_View___getitem__ pm_View___getitem__ an_View___getitem__ cd_View___getitem__ ct_View___getitem__), sl_View___getitem__⟩)
    (c_View___getitem__ : PySem.W.codeIn K cd_View___getitem__ "View.__getitem__" = true)
    (k_View___getitem__ : PySem.W.keepIn K (.ref f_View___getitem__) = true)
    (a_View___setitem__ : PySem.W.findIn K (.ref c_View) "__setitem__" = some (some (.ref f_View___setitem__)))
    (i_View___setitem__ : PySem.W.isFn K (.ref f_View___setitem__) = true)
    (l_View___setitem__ : K.lookup f_View___setitem__ = some ⟨oc_View___setitem__, od_View___setitem__, .func (PySem.W.fnOf "__setitem__" "View.__setitem__" (defArgs s_View___setitem__) (defBody s_View___setitem__) (defScope s_View___setitem__) .none kV_View___setitem__ dc_View___setitem__ pm_View___setitem__ an_View___setitem__ cd_View___setitem__ ct_View___setitem__), sl_View___setitem__⟩)
    (c_View___setitem__ : PySem.W.codeIn K cd_View___setitem__ "View.__setitem__" = true)
    (k_View___setitem__ : PySem.W.keepIn K (.ref f_View___setitem__) = true)
    (a_View___contains__ : PySem.W.findIn K (.ref c_View) "__contains__" = some (some (.ref f_View___contains__)))
    (i_View___contains__ : PySem.W.isFn K (.ref f_View___contains__) = true)
    (l_View___contains__ : K.lookup f_View___contains__ = some ⟨oc_View___contains__, od_View___contains__, .func (PySem.W.fnOf "__contains__" "View.__contains__" (defArgs s_View___contains__) (defBody s_View___contains__) (defScope s_View___contains__) .none kV_View___contains__ dc_View___contains__ pm_View___contains__ an_View___contains__ cd_View___contains__ ct_View___contains__), sl_View___contains__⟩)
    (c_View___contains__ : PySem.W.codeIn K cd_View___contains__ "View.__contains__" = true)
    (k_View___contains__ : PySem.W.keepIn K (.ref f_View___contains__) = true)
    (a_View___eq__ : PySem.W.findIn K (.ref c_View) "__eq__" = some (some (.ref f_View___eq__)))
    (i_View___eq__ : PySem.W.isFn K (.ref f_View___eq__) = true)
    (l_View___eq__ : K.lookup f_View___eq__ = some ⟨oc_View___eq__, od_View___eq__, .func (PySem.W.fnOf "__eq__" "View.__eq__" (defArgs s_View___eq__) (defBody s_View___eq__) (defScope s_View___eq__) .none kV_View___eq__ dc_View___eq__ pm_View___eq__ an_View___eq__ cd_View___eq__ ct_View___eq__), sl_View___eq__⟩)
    (c_View___eq__ : PySem.W.codeIn K cd_View___eq__ "View.__eq__" = true)
    (k_View___eq__ : PySem.W.keepIn K (.ref f_View___eq__) = true)
    (a_Store___init__ : PySem.W.findIn K (.ref c_Store) "__init__" = some (some (.ref f_Store___init__)))
    (i_Store___init__ : PySem.W.isFn K (.ref f_Store___init__) = true)
    (l_Store___init__ : K.lookup f_Store___init__ = some ⟨oc_Store___init__, od_Store___init__, .func (PySem.W.fnOf "__init__" "Store.__init__" (defArgs s_Store___init__) (defBody s_Store___init__) (defScope s_Store___init__) .none kV_Store___init__ dc_Store___init__ pm_Store___init__ an_Store___init__ cd_Store___init__ ct_Store___init__), sl_Store___init__⟩)
    (c_Store___init__ : PySem.W.codeIn K cd_Store___init__ "Store.__init__" = true)
    (k_Store___init__ : PySem.W.keepIn K (.ref f_Store___init__) = true)
    (a_Store_listed : PySem.W.findIn K (.ref c_Store) "listed" = some (some (.ref f_Store_listed)))
    (i_Store_listed : PySem.W.isFn K (.ref f_Store_listed) = true)
    (l_Store_listed : K.lookup f_Store_listed = some ⟨oc_Store_listed, od_Store_listed, .func (PySem.W.fnOf "listed" "Store.listed" (defArgs s_Store_listed) (defBody s_Store_listed) (defScope s_Store_listed) .none kV_Store_listed dc_Store_listed pm_Store_listed an_Store_listed cd_Store_listed ct_Store_listed), sl_Store_listed⟩)
    (c_Store_listed : PySem.W.codeIn K cd_Store_listed "Store.listed" = true)
    (k_Store_listed : PySem.W.keepIn K (.ref f_Store_listed) = true)
    (a_Store_lent : PySem.W.findIn K (.ref c_Store) "lent" = some (some (.ref f_Store_lent)))
    (i_Store_lent : PySem.W.isFn K (.ref f_Store_lent) = true)
    (l_Store_lent : K.lookup f_Store_lent = some ⟨oc_Store_lent, od_Store_lent, .func (PySem.W.fnOf "lent" "Store.lent" (defArgs s_Store_lent) (defBody s_Store_lent) (defScope s_Store_lent) .none kV_Store_lent dc_Store_lent pm_Store_lent an_Store_lent cd_Store_lent ct_Store_lent), sl_Store_lent⟩)
    (c_Store_lent : PySem.W.codeIn K cd_Store_lent "Store.lent" = true)
    (k_Store_lent : PySem.W.keepIn K (.ref f_Store_lent) = true)
    (a_Store_check_free : PySem.W.findIn K (.ref c_Store) "check_free" = some (some (.ref f_Store_check_free)))
    (i_Store_check_free : PySem.W.isFn K (.ref f_Store_check_free) = true)
    (l_Store_check_free : K.lookup f_Store_check_free = some ⟨oc_Store_check_free, od_Store_check_free, .func (PySem.W.fnOf "check_free" "Store.check_free" (defArgs s_Store_check_free) (defBody s_Store_check_free) (defScope s_Store_check_free) .none kV_Store_check_free dc_Store_check_free pm_Store_check_free an_Store_check_free cd_Store_check_free ct_Store_check_free), sl_Store_check_free⟩)
    (c_Store_check_free : PySem.W.codeIn K cd_Store_check_free "Store.check_free" = true)
    (k_Store_check_free : PySem.W.keepIn K (.ref f_Store_check_free) = true)
    (a_Store_view : PySem.W.findIn K (.ref c_Store) "view" = some (some (.ref f_Store_view)))
    (i_Store_view : PySem.W.isFn K (.ref f_Store_view) = true)
    (l_Store_view : K.lookup f_Store_view = some ⟨oc_Store_view, od_Store_view, .func (PySem.W.fnOf "view" "Store.view" (defArgs s_Store_view) (defBody s_Store_view) (defScope s_Store_view) .none kV_Store_view dc_Store_view pm_Store_view an_Store_view cd_Store_view ct_Store_view), sl_Store_view⟩)
    (c_Store_view : PySem.W.codeIn K cd_Store_view "Store.view" = true)
    (k_Store_view : PySem.W.keepIn K (.ref f_Store_view) = true)
    (a_Store_grow : PySem.W.findIn K (.ref c_Store) "grow" = some (some (.ref f_Store_grow)))
    (i_Store_grow : PySem.W.isFn K (.ref f_Store_grow) = true)
    (l_Store_grow : K.lookup f_Store_grow = some ⟨oc_Store_grow, od_Store_grow, .func (PySem.W.fnOf "grow" "Store.grow" (defArgs s_Store_grow) (defBody s_Store_grow) (defScope s_Store_grow) .none kV_Store_grow dc_Store_grow pm_Store_grow an_Store_grow cd_Store_grow ct_Store_grow), sl_Store_grow⟩)
    (c_Store_grow : PySem.W.codeIn K cd_Store_grow "Store.grow" = true)
    (k_Store_grow : PySem.W.keepIn K (.ref f_Store_grow) = true)
    (a__law_same : PySem.W.nsIn K mainGlobals "_law_same" = some (some (.ref f__law_same)))
    (l__law_same : K.lookup f__law_same = some ⟨oc__law_same, od__law_same, .func (PySem.W.fnOf "_law_same" "_law_same" (defArgs s__law_same) (defBody s__law_same) (defScope s__law_same) .none kV__law_same dc__law_same pm__law_same an__law_same cd__law_same ct__law_same), sl__law_same⟩)
    (c__law_same : PySem.W.codeIn K cd__law_same "_law_same" = true)
    (k__law_same : PySem.W.keepIn K (.ref f__law_same) = true)
    (a__law_draw : PySem.W.nsIn K mainGlobals "_law_draw" = some (some (.ref f__law_draw)))
    (l__law_draw : K.lookup f__law_draw = some ⟨oc__law_draw, od__law_draw, .func (PySem.W.fnOf "_law_draw" "_law_draw" (defArgs s__law_draw) (defBody s__law_draw) (defScope s__law_draw) .none kV__law_draw dc__law_draw pm__law_draw an__law_draw cd__law_draw ct__law_draw), sl__law_draw⟩)
    (c__law_draw : PySem.W.codeIn K cd__law_draw "_law_draw" = true)
    (k__law_draw : PySem.W.keepIn K (.ref f__law_draw) = true)
    (a__law_value : PySem.W.nsIn K mainGlobals "_law_value" = some (some (.ref f__law_value)))
    (l__law_value : K.lookup f__law_value = some ⟨oc__law_value, od__law_value, .func (PySem.W.fnOf "_law_value" "_law_value" (defArgs s__law_value) (defBody s__law_value) (defScope s__law_value) .none kV__law_value dc__law_value pm__law_value an__law_value cd__law_value ct__law_value), sl__law_value⟩)
    (c__law_value : PySem.W.codeIn K cd__law_value "_law_value" = true)
    (k__law_value : PySem.W.keepIn K (.ref f__law_value) = true)
    (a__law_first : PySem.W.nsIn K mainGlobals "_law_first" = some (some (.ref f__law_first)))
    (l__law_first : K.lookup f__law_first = some ⟨oc__law_first, od__law_first, .func (PySem.W.fnOf "_law_first" "_law_first" (defArgs s__law_first) (defBody s__law_first) (defScope s__law_first) .none kV__law_first dc__law_first pm__law_first an__law_first cd__law_first ct__law_first), sl__law_first⟩)
    (c__law_first : PySem.W.codeIn K cd__law_first "_law_first" = true)
    (k__law_first : PySem.W.keepIn K (.ref f__law_first) = true)
    (a__law_raises : PySem.W.nsIn K mainGlobals "_law_raises" = some (some (.ref f__law_raises)))
    (l__law_raises : K.lookup f__law_raises = some ⟨oc__law_raises, od__law_raises, .func (PySem.W.fnOf "_law_raises" "_law_raises" (defArgs s__law_raises) (defBody s__law_raises) (defScope s__law_raises) .none kV__law_raises dc__law_raises pm__law_raises an__law_raises cd__law_raises ct__law_raises), sl__law_raises⟩)
    (c__law_raises : PySem.W.codeIn K cd__law_raises "_law_raises" = true)
    (k__law_raises : PySem.W.keepIn K (.ref f__law_raises) = true)
    (a__law_grows : PySem.W.nsIn K mainGlobals "_law_grows" = some (some (.ref f__law_grows)))
    (l__law_grows : K.lookup f__law_grows = some ⟨oc__law_grows, od__law_grows, .func (PySem.W.fnOf "_law_grows" "_law_grows" (defArgs s__law_grows) (defBody s__law_grows) (defScope s__law_grows) .none kV__law_grows dc__law_grows pm__law_grows an__law_grows cd__law_grows ct__law_grows), sl__law_grows⟩)
    (c__law_grows : PySem.W.codeIn K cd__law_grows "_law_grows" = true)
    (k__law_grows : PySem.W.keepIn K (.ref f__law_grows) = true)
    (a__law_during : PySem.W.nsIn K mainGlobals "_law_during" = some (some (.ref f__law_during)))
    (l__law_during : K.lookup f__law_during = some ⟨oc__law_during, od__law_during, .func (PySem.W.fnOf "_law_during" "_law_during" (defArgs s__law_during) (defBody s__law_during) (defScope s__law_during) .none kV__law_during dc__law_during pm__law_during an__law_during cd__law_during ct__law_during), sl__law_during⟩)
    (c__law_during : PySem.W.codeIn K cd__law_during "_law_during" = true)
    (k__law_during : PySem.W.keepIn K (.ref f__law_during) = true)
    (a__law_flag : PySem.W.nsIn K mainGlobals "_law_flag" = some (some (.ref f__law_flag)))
    (l__law_flag : K.lookup f__law_flag = some ⟨oc__law_flag, od__law_flag, .func (PySem.W.fnOf "_law_flag" "_law_flag" (defArgs s__law_flag) (defBody s__law_flag) (defScope s__law_flag) .none kV__law_flag dc__law_flag pm__law_flag an__law_flag cd__law_flag ct__law_flag), sl__law_flag⟩)
    (c__law_flag : PySem.W.codeIn K cd__law_flag "_law_flag" = true)
    (k__law_flag : PySem.W.keepIn K (.ref f__law_flag) = true)
    (a__law_gone : PySem.W.nsIn K mainGlobals "_law_gone" = some (some (.ref f__law_gone)))
    (l__law_gone : K.lookup f__law_gone = some ⟨oc__law_gone, od__law_gone, .func (PySem.W.fnOf "_law_gone" "_law_gone" (defArgs s__law_gone) (defBody s__law_gone) (defScope s__law_gone) .none kV__law_gone dc__law_gone pm__law_gone an__law_gone cd__law_gone ct__law_gone), sl__law_gone⟩)
    (c__law_gone : PySem.W.codeIn K cd__law_gone "_law_gone" = true)
    (k__law_gone : PySem.W.keepIn K (.ref f__law_gone) = true)
    (a__law_deeds : PySem.W.nsIn K mainGlobals "_law_deeds" = some (some (.ref f__law_deeds)))
    (l__law_deeds : K.lookup f__law_deeds = some ⟨oc__law_deeds, od__law_deeds, .func (PySem.W.fnOf "_law_deeds" "_law_deeds" (defArgs s__law_deeds) (defBody s__law_deeds) (defScope s__law_deeds) .none kV__law_deeds dc__law_deeds pm__law_deeds an__law_deeds cd__law_deeds ct__law_deeds), sl__law_deeds⟩)
    (c__law_deeds : PySem.W.codeIn K cd__law_deeds "_law_deeds" = true)
    (k__law_deeds : PySem.W.keepIn K (.ref f__law_deeds) = true)
    (a_law : PySem.W.nsIn K mainGlobals "law" = some (some (.ref f_law)))
    (l_law : K.lookup f_law = some ⟨oc_law, od_law, .func (PySem.W.fnOf "law" "law" (defArgs s_law) (defBody s_law) (defScope s_law) .none kV_law dc_law pm_law an_law cd_law ct_law), sl_law⟩)
    (c_law : PySem.W.codeIn K cd_law "law" = true)
    (k_law : PySem.W.keepIn K (.ref f_law) = true)
    (x1_BadNumber : K.lookup c_BadNumber = some (excClassObj nm_BadNumber q_BadNumber c_BadNumber N_BadNumber bs_BadNumber bm_BadNumber true sn_BadNumber sub_BadNumber ab_BadNumber col_BadNumber dd_BadNumber k0_BadNumber k1_BadNumber k2_BadNumber k3_BadNumber k5_BadNumber "ValueError.__new__"))
    (x2_BadNumber : PySem.HandSPX.refsVE bm_BadNumber = true)
    (x3_BadNumber : PySem.W.findIn K (.ref c_BadNumber) "__setattr__" = some (some (.builtin "object.__setattr__")))
    (x4_BadNumber : PySem.W.subIn K (.ref c_BadNumber) (.type "BaseException") = some true)
    (x5_BadNumber : PySem.W.typeIn K (.ref c_BadNumber) = some (.type "type"))
    (x6_BadNumber : PySem.W.keepIn K (.ref c_BadNumber) = true)
    (x7_BadNumber : PySem.W.findIn K (.ref c_BadNumber) "__init__" = some (some (.ref f_BadNumber___init__)))
    (x8_BadNumber : PySem.W.typeIn K (.ref f_BadNumber___init__) = some (.type "function"))
    (x9_BadNumber : PySem.W.findIn K (.ref c_BadNumber) "__getattribute__" = some (some (.builtin "BaseException.__getattribute__")))
    (x10_BadNumber : PySem.W.findIn K (.ref c_BadNumber) "__getattr__" = some none)
    (x11_BadNumber : PySem.W.hasDictIn K c_BadNumber = true)
    (x12_BadNumber : PySem.W.findIn K (.ref c_BadNumber) "number" = some none)
    (x13_BadNumber : PySem.W.findIn K (.ref c_BadNumber) "__class__" = some (some (.builtin "object.__class__")))
    (x14_BadNumber : PySem.W.specialIn K (.builtin "object.__class__") "__get__" = some (some (.builtin "getset_descriptor.__get__")))
    (x15_BadNumber : PySem.W.takesIn K (.builtin "object.__class__") = some true)
    (x16_BadNumber : PySem.W.mroIn K c_BadNumber (.type "object") = some true)
    (x17_BadNumber : K.lookup f_BadNumber___init__ = some ⟨oc_BadNumber, od_BadNumber, .func (PySem.W.ksFn "__init__" "BadNumber.__init__" (defArgs s_BadNumber___init__) (defBody s_BadNumber___init__) (defScope s_BadNumber___init__) .none kV_BadNumber dc_BadNumber pm_BadNumber an_BadNumber (.ref cda_BadNumber) ct_BadNumber cc_BadNumber), osl_BadNumber⟩)
    (x18_BadNumber : PySem.W.codeIn K (.ref cda_BadNumber) "BadNumber.__init__" = true)
    (x19_BadNumber : K.lookup cda_BadNumber = some ⟨ccl_BadNumber, cdd_BadNumber, .fields cvs_BadNumber, ccs_BadNumber⟩)
    (x20_BadNumber : cvs_BadNumber[2]? = some (.str file_BadNumber tf_BadNumber))
    (x21_BadNumber : ((l.prog.main.file : Str) == file_BadNumber) = true)
    (x22_BadNumber : K.lookup cc_BadNumber = some ⟨cl_BadNumber, cld_BadNumber, .cell (some (.ref c_BadNumber)), csl_BadNumber⟩)
    (x23_BadNumber : PySem.W.clsIn K c_BadNumber = some cd_BadNumber)
    (x24_BadNumber : PySem.W.mroIn K c_BadNumber (.ref c_BadNumber) = some true)
    (x25_BadNumber : PySem.W.alongIn K "__init__" ((cd_BadNumber.mro.dropWhile (· != .ref c_BadNumber)).drop 1) = some (some (.builtin "ValueError.__init__")))
    (x26_BadNumber : PySem.W.subIn K (.ref c_BadNumber) (.type "ValueError") = some true)
    (x27_BadNumber : PySem.W.nsIn K cStatics "thirdparty.any" = some none)
    (x28_BadNumber : PySem.W.nsIn K mainGlobals "super" = some none)
    (x29_BadNumber : (l.prog.main.scope.names.lookup ("super" : Str)).isSome = false)
    (x1_BadWindow : K.lookup c_BadWindow = some (excClassObj nm_BadWindow q_BadWindow c_BadWindow N_BadWindow bs_BadWindow bm_BadWindow true sn_BadWindow sub_BadWindow ab_BadWindow col_BadWindow dd_BadWindow k0_BadWindow k1_BadWindow k2_BadWindow k3_BadWindow k5_BadWindow "ValueError.__new__"))
    (x2_BadWindow : PySem.HandSPX.refsVE bm_BadWindow = true)
    (x3_BadWindow : PySem.W.findIn K (.ref c_BadWindow) "__setattr__" = some (some (.builtin "object.__setattr__")))
    (x4_BadWindow : PySem.W.subIn K (.ref c_BadWindow) (.type "BaseException") = some true)
    (x5_BadWindow : PySem.W.typeIn K (.ref c_BadWindow) = some (.type "type"))
    (x6_BadWindow : PySem.W.keepIn K (.ref c_BadWindow) = true)
    (x7_BadWindow : PySem.W.findIn K (.ref c_BadWindow) "__init__" = some (some (.ref f_BadWindow___init__)))
    (x8_BadWindow : PySem.W.typeIn K (.ref f_BadWindow___init__) = some (.type "function"))
    (x9_BadWindow : PySem.W.findIn K (.ref c_BadWindow) "__getattribute__" = some (some (.builtin "BaseException.__getattribute__")))
    (x10_BadWindow : PySem.W.findIn K (.ref c_BadWindow) "__getattr__" = some none)
    (x11_BadWindow : PySem.W.hasDictIn K c_BadWindow = true)
    (x12_BadWindow : PySem.W.findIn K (.ref c_BadWindow) "part" = some none)
    (x13_BadWindow : PySem.W.findIn K (.ref c_BadWindow) "__class__" = some (some (.builtin "object.__class__")))
    (x14_BadWindow : PySem.W.specialIn K (.builtin "object.__class__") "__get__" = some (some (.builtin "getset_descriptor.__get__")))
    (x15_BadWindow : PySem.W.takesIn K (.builtin "object.__class__") = some true)
    (x16_BadWindow : PySem.W.mroIn K c_BadWindow (.type "object") = some true)
    (x17_BadWindow : K.lookup f_BadWindow___init__ = some ⟨oc_BadWindow, od_BadWindow, .func (PySem.W.ksFn "__init__" "BadWindow.__init__" (defArgs s_BadWindow___init__) (defBody s_BadWindow___init__) (defScope s_BadWindow___init__) .none kV_BadWindow dc_BadWindow pm_BadWindow an_BadWindow (.ref cda_BadWindow) ct_BadWindow cc_BadWindow), osl_BadWindow⟩)
    (x18_BadWindow : PySem.W.codeIn K (.ref cda_BadWindow) "BadWindow.__init__" = true)
    (x19_BadWindow : K.lookup cda_BadWindow = some ⟨ccl_BadWindow, cdd_BadWindow, .fields cvs_BadWindow, ccs_BadWindow⟩)
    (x20_BadWindow : cvs_BadWindow[2]? = some (.str file_BadWindow tf_BadWindow))
    (x21_BadWindow : ((l.prog.main.file : Str) == file_BadWindow) = true)
    (x22_BadWindow : K.lookup cc_BadWindow = some ⟨cl_BadWindow, cld_BadWindow, .cell (some (.ref c_BadWindow)), csl_BadWindow⟩)
    (x23_BadWindow : PySem.W.clsIn K c_BadWindow = some cd_BadWindow)
    (x24_BadWindow : PySem.W.mroIn K c_BadWindow (.ref c_BadWindow) = some true)
    (x25_BadWindow : PySem.W.alongIn K "__init__" ((cd_BadWindow.mro.dropWhile (· != .ref c_BadWindow)).drop 1) = some (some (.builtin "ValueError.__init__")))
    (x26_BadWindow : PySem.W.subIn K (.ref c_BadWindow) (.type "ValueError") = some true)
    (x27_BadWindow : PySem.W.nsIn K cStatics "thirdparty.any" = some none)
    (x28_BadWindow : PySem.W.nsIn K mainGlobals "super" = some none)
    (x29_BadWindow : (l.prog.main.scope.names.lookup ("super" : Str)).isSome = false)
    (x1_BadIndex : K.lookup c_BadIndex = some (excClassObj nm_BadIndex q_BadIndex c_BadIndex N_BadIndex bs_BadIndex bm_BadIndex true sn_BadIndex sub_BadIndex ab_BadIndex col_BadIndex dd_BadIndex k0_BadIndex k1_BadIndex k2_BadIndex k3_BadIndex k5_BadIndex "ValueError.__new__"))
    (x2_BadIndex : PySem.HandSPX.refsVE bm_BadIndex = true)
    (x3_BadIndex : PySem.W.findIn K (.ref c_BadIndex) "__setattr__" = some (some (.builtin "object.__setattr__")))
    (x4_BadIndex : PySem.W.subIn K (.ref c_BadIndex) (.type "BaseException") = some true)
    (x5_BadIndex : PySem.W.typeIn K (.ref c_BadIndex) = some (.type "type"))
    (x6_BadIndex : PySem.W.keepIn K (.ref c_BadIndex) = true)
    (x7_BadIndex : PySem.W.findIn K (.ref c_BadIndex) "__init__" = some (some (.ref f_BadIndex___init__)))
    (x8_BadIndex : PySem.W.typeIn K (.ref f_BadIndex___init__) = some (.type "function"))
    (x9_BadIndex : PySem.W.findIn K (.ref c_BadIndex) "__getattribute__" = some (some (.builtin "BaseException.__getattribute__")))
    (x10_BadIndex : PySem.W.findIn K (.ref c_BadIndex) "__getattr__" = some none)
    (x11_BadIndex : PySem.W.hasDictIn K c_BadIndex = true)
    (x12_BadIndex : PySem.W.findIn K (.ref c_BadIndex) "index" = some none)
    (x13_BadIndex : PySem.W.findIn K (.ref c_BadIndex) "__class__" = some (some (.builtin "object.__class__")))
    (x14_BadIndex : PySem.W.specialIn K (.builtin "object.__class__") "__get__" = some (some (.builtin "getset_descriptor.__get__")))
    (x15_BadIndex : PySem.W.takesIn K (.builtin "object.__class__") = some true)
    (x16_BadIndex : PySem.W.mroIn K c_BadIndex (.type "object") = some true)
    (x17_BadIndex : K.lookup f_BadIndex___init__ = some ⟨oc_BadIndex, od_BadIndex, .func (PySem.W.ksFn "__init__" "BadIndex.__init__" (defArgs s_BadIndex___init__) (defBody s_BadIndex___init__) (defScope s_BadIndex___init__) .none kV_BadIndex dc_BadIndex pm_BadIndex an_BadIndex (.ref cda_BadIndex) ct_BadIndex cc_BadIndex), osl_BadIndex⟩)
    (x18_BadIndex : PySem.W.codeIn K (.ref cda_BadIndex) "BadIndex.__init__" = true)
    (x19_BadIndex : K.lookup cda_BadIndex = some ⟨ccl_BadIndex, cdd_BadIndex, .fields cvs_BadIndex, ccs_BadIndex⟩)
    (x20_BadIndex : cvs_BadIndex[2]? = some (.str file_BadIndex tf_BadIndex))
    (x21_BadIndex : ((l.prog.main.file : Str) == file_BadIndex) = true)
    (x22_BadIndex : K.lookup cc_BadIndex = some ⟨cl_BadIndex, cld_BadIndex, .cell (some (.ref c_BadIndex)), csl_BadIndex⟩)
    (x23_BadIndex : PySem.W.clsIn K c_BadIndex = some cd_BadIndex)
    (x24_BadIndex : PySem.W.mroIn K c_BadIndex (.ref c_BadIndex) = some true)
    (x25_BadIndex : PySem.W.alongIn K "__init__" ((cd_BadIndex.mro.dropWhile (· != .ref c_BadIndex)).drop 1) = some (some (.builtin "ValueError.__init__")))
    (x26_BadIndex : PySem.W.subIn K (.ref c_BadIndex) (.type "ValueError") = some true)
    (x27_BadIndex : PySem.W.nsIn K cStatics "thirdparty.any" = some none)
    (x28_BadIndex : PySem.W.nsIn K mainGlobals "super" = some none)
    (x29_BadIndex : (l.prog.main.scope.names.lookup ("super" : Str)).isSome = false)
    (x1_BadBytes : K.lookup c_BadBytes = some (excClassObj nm_BadBytes q_BadBytes c_BadBytes N_BadBytes bs_BadBytes bm_BadBytes true sn_BadBytes sub_BadBytes ab_BadBytes col_BadBytes dd_BadBytes k0_BadBytes k1_BadBytes k2_BadBytes k3_BadBytes k5_BadBytes "ValueError.__new__"))
    (x2_BadBytes : PySem.HandSPX.refsVE bm_BadBytes = true)
    (x3_BadBytes : PySem.W.findIn K (.ref c_BadBytes) "__setattr__" = some (some (.builtin "object.__setattr__")))
    (x4_BadBytes : PySem.W.subIn K (.ref c_BadBytes) (.type "BaseException") = some true)
    (x5_BadBytes : PySem.W.typeIn K (.ref c_BadBytes) = some (.type "type"))
    (x6_BadBytes : PySem.W.keepIn K (.ref c_BadBytes) = true)
    (x7_BadBytes : PySem.W.findIn K (.ref c_BadBytes) "__init__" = some (some (.ref f_BadBytes___init__)))
    (x8_BadBytes : PySem.W.typeIn K (.ref f_BadBytes___init__) = some (.type "function"))
    (x9_BadBytes : PySem.W.findIn K (.ref c_BadBytes) "__getattribute__" = some (some (.builtin "BaseException.__getattribute__")))
    (x10_BadBytes : PySem.W.findIn K (.ref c_BadBytes) "__getattr__" = some none)
    (x11_BadBytes : PySem.W.hasDictIn K c_BadBytes = true)
    (x12_BadBytes : PySem.W.findIn K (.ref c_BadBytes) "index" = some none)
    (x13_BadBytes : PySem.W.findIn K (.ref c_BadBytes) "__class__" = some (some (.builtin "object.__class__")))
    (x14_BadBytes : PySem.W.specialIn K (.builtin "object.__class__") "__get__" = some (some (.builtin "getset_descriptor.__get__")))
    (x15_BadBytes : PySem.W.takesIn K (.builtin "object.__class__") = some true)
    (x16_BadBytes : PySem.W.mroIn K c_BadBytes (.type "object") = some true)
    (x17_BadBytes : K.lookup f_BadBytes___init__ = some ⟨oc_BadBytes, od_BadBytes, .func (PySem.W.ksFn "__init__" "BadBytes.__init__" (defArgs s_BadBytes___init__) (defBody s_BadBytes___init__) (defScope s_BadBytes___init__) .none kV_BadBytes dc_BadBytes pm_BadBytes an_BadBytes (.ref cda_BadBytes) ct_BadBytes cc_BadBytes), osl_BadBytes⟩)
    (x18_BadBytes : PySem.W.codeIn K (.ref cda_BadBytes) "BadBytes.__init__" = true)
    (x19_BadBytes : K.lookup cda_BadBytes = some ⟨ccl_BadBytes, cdd_BadBytes, .fields cvs_BadBytes, ccs_BadBytes⟩)
    (x20_BadBytes : cvs_BadBytes[2]? = some (.str file_BadBytes tf_BadBytes))
    (x21_BadBytes : ((l.prog.main.file : Str) == file_BadBytes) = true)
    (x22_BadBytes : K.lookup cc_BadBytes = some ⟨cl_BadBytes, cld_BadBytes, .cell (some (.ref c_BadBytes)), csl_BadBytes⟩)
    (x23_BadBytes : PySem.W.clsIn K c_BadBytes = some cd_BadBytes)
    (x24_BadBytes : PySem.W.mroIn K c_BadBytes (.ref c_BadBytes) = some true)
    (x25_BadBytes : PySem.W.alongIn K "__init__" ((cd_BadBytes.mro.dropWhile (· != .ref c_BadBytes)).drop 1) = some (some (.builtin "ValueError.__init__")))
    (x26_BadBytes : PySem.W.subIn K (.ref c_BadBytes) (.type "ValueError") = some true)
    (x27_BadBytes : PySem.W.nsIn K cStatics "thirdparty.any" = some none)
    (x28_BadBytes : PySem.W.nsIn K mainGlobals "super" = some none)
    (x29_BadBytes : (l.prog.main.scope.names.lookup ("super" : Str)).isSome = false)
    (x1_BadValue : K.lookup c_BadValue = some (excClassObj nm_BadValue q_BadValue c_BadValue N_BadValue bs_BadValue bm_BadValue true sn_BadValue sub_BadValue ab_BadValue col_BadValue dd_BadValue k0_BadValue k1_BadValue k2_BadValue k3_BadValue k5_BadValue "ValueError.__new__"))
    (x2_BadValue : PySem.HandSPX.refsVE bm_BadValue = true)
    (x3_BadValue : PySem.W.findIn K (.ref c_BadValue) "__setattr__" = some (some (.builtin "object.__setattr__")))
    (x4_BadValue : PySem.W.subIn K (.ref c_BadValue) (.type "BaseException") = some true)
    (x5_BadValue : PySem.W.typeIn K (.ref c_BadValue) = some (.type "type"))
    (x6_BadValue : PySem.W.keepIn K (.ref c_BadValue) = true)
    (x7_BadValue : PySem.W.findIn K (.ref c_BadValue) "__init__" = some (some (.ref f_BadValue___init__)))
    (x8_BadValue : PySem.W.typeIn K (.ref f_BadValue___init__) = some (.type "function"))
    (x9_BadValue : PySem.W.findIn K (.ref c_BadValue) "__getattribute__" = some (some (.builtin "BaseException.__getattribute__")))
    (x10_BadValue : PySem.W.findIn K (.ref c_BadValue) "__getattr__" = some none)
    (x11_BadValue : PySem.W.hasDictIn K c_BadValue = true)
    (x12_BadValue : PySem.W.findIn K (.ref c_BadValue) "value" = some none)
    (x13_BadValue : PySem.W.findIn K (.ref c_BadValue) "__class__" = some (some (.builtin "object.__class__")))
    (x14_BadValue : PySem.W.specialIn K (.builtin "object.__class__") "__get__" = some (some (.builtin "getset_descriptor.__get__")))
    (x15_BadValue : PySem.W.takesIn K (.builtin "object.__class__") = some true)
    (x16_BadValue : PySem.W.mroIn K c_BadValue (.type "object") = some true)
    (x17_BadValue : K.lookup f_BadValue___init__ = some ⟨oc_BadValue, od_BadValue, .func (PySem.W.ksFn "__init__" "BadValue.__init__" (defArgs s_BadValue___init__) (defBody s_BadValue___init__) (defScope s_BadValue___init__) .none kV_BadValue dc_BadValue pm_BadValue an_BadValue (.ref cda_BadValue) ct_BadValue cc_BadValue), osl_BadValue⟩)
    (x18_BadValue : PySem.W.codeIn K (.ref cda_BadValue) "BadValue.__init__" = true)
    (x19_BadValue : K.lookup cda_BadValue = some ⟨ccl_BadValue, cdd_BadValue, .fields cvs_BadValue, ccs_BadValue⟩)
    (x20_BadValue : cvs_BadValue[2]? = some (.str file_BadValue tf_BadValue))
    (x21_BadValue : ((l.prog.main.file : Str) == file_BadValue) = true)
    (x22_BadValue : K.lookup cc_BadValue = some ⟨cl_BadValue, cld_BadValue, .cell (some (.ref c_BadValue)), csl_BadValue⟩)
    (x23_BadValue : PySem.W.clsIn K c_BadValue = some cd_BadValue)
    (x24_BadValue : PySem.W.mroIn K c_BadValue (.ref c_BadValue) = some true)
    (x25_BadValue : PySem.W.alongIn K "__init__" ((cd_BadValue.mro.dropWhile (· != .ref c_BadValue)).drop 1) = some (some (.builtin "ValueError.__init__")))
    (x26_BadValue : PySem.W.subIn K (.ref c_BadValue) (.type "ValueError") = some true)
    (x27_BadValue : PySem.W.nsIn K cStatics "thirdparty.any" = some none)
    (x28_BadValue : PySem.W.nsIn K mainGlobals "super" = some none)
    (x29_BadValue : (l.prog.main.scope.names.lookup ("super" : Str)).isSome = false)
    (y1_BadCast : PySem.W.excIn K c_BadCast [.type "ValueError", .type "Exception", .type "BaseException", .type "object"] "ValueError.__new__" = true)
    (y2_BadCast : PySem.W.keepIn K (.ref c_BadCast) = true)
    (y3_BadCast : PySem.W.typeIn K (.ref c_BadCast) = some (.type "type"))
    (y4_BadCast : PySem.W.findIn K (.ref c_BadCast) "__getattribute__" = some (some (.builtin "BaseException.__getattribute__")))
    (y5_BadCast : PySem.W.findIn K (.ref c_BadCast) "__getattr__" = some none)
    (y6_BadCast : PySem.W.subIn K (.ref c_BadCast) (.type "BaseException") = some true)
    (y7_BadCast : PySem.W.hasDictIn K c_BadCast = true)
    (y8_BadCast : PySem.W.findIn K (.ref c_BadCast) "__class__" = some (some (.builtin "object.__class__")))
    (y9_BadCast : PySem.W.specialIn K (.builtin "object.__class__") "__get__" = some (some (.builtin "getset_descriptor.__get__")))
    (y10_BadCast : PySem.W.takesIn K (.builtin "object.__class__") = some true)
    (y11_BadCast : PySem.W.mroIn K c_BadCast (.type "object") = some true)
    (y1_Gone : PySem.W.excIn K c_Gone [.type "ValueError", .type "Exception", .type "BaseException", .type "object"] "ValueError.__new__" = true)
    (y2_Gone : PySem.W.keepIn K (.ref c_Gone) = true)
    (y3_Gone : PySem.W.typeIn K (.ref c_Gone) = some (.type "type"))
    (y4_Gone : PySem.W.findIn K (.ref c_Gone) "__getattribute__" = some (some (.builtin "BaseException.__getattribute__")))
    (y5_Gone : PySem.W.findIn K (.ref c_Gone) "__getattr__" = some none)
    (y6_Gone : PySem.W.subIn K (.ref c_Gone) (.type "BaseException") = some true)
    (y7_Gone : PySem.W.hasDictIn K c_Gone = true)
    (y8_Gone : PySem.W.findIn K (.ref c_Gone) "__class__" = some (some (.builtin "object.__class__")))
    (y9_Gone : PySem.W.specialIn K (.builtin "object.__class__") "__get__" = some (some (.builtin "getset_descriptor.__get__")))
    (y10_Gone : PySem.W.takesIn K (.builtin "object.__class__") = some true)
    (y11_Gone : PySem.W.mroIn K c_Gone (.type "object") = some true)
    (y1_Held : PySem.W.excIn K c_Held [.type "ValueError", .type "Exception", .type "BaseException", .type "object"] "ValueError.__new__" = true)
    (y2_Held : PySem.W.keepIn K (.ref c_Held) = true)
    (y3_Held : PySem.W.typeIn K (.ref c_Held) = some (.type "type"))
    (y4_Held : PySem.W.findIn K (.ref c_Held) "__getattribute__" = some (some (.builtin "BaseException.__getattribute__")))
    (y5_Held : PySem.W.findIn K (.ref c_Held) "__getattr__" = some none)
    (y6_Held : PySem.W.subIn K (.ref c_Held) (.type "BaseException") = some true)
    (y7_Held : PySem.W.hasDictIn K c_Held = true)
    (y8_Held : PySem.W.findIn K (.ref c_Held) "__class__" = some (some (.builtin "object.__class__")))
    (y9_Held : PySem.W.specialIn K (.builtin "object.__class__") "__get__" = some (some (.builtin "getset_descriptor.__get__")))
    (y10_Held : PySem.W.takesIn K (.builtin "object.__class__") = some true)
    (y11_Held : PySem.W.mroIn K c_Held (.type "object") = some true)
    (y1_Locked : PySem.W.excIn K c_Locked [.type "ValueError", .type "Exception", .type "BaseException", .type "object"] "ValueError.__new__" = true)
    (y2_Locked : PySem.W.keepIn K (.ref c_Locked) = true)
    (y3_Locked : PySem.W.typeIn K (.ref c_Locked) = some (.type "type"))
    (y4_Locked : PySem.W.findIn K (.ref c_Locked) "__getattribute__" = some (some (.builtin "BaseException.__getattribute__")))
    (y5_Locked : PySem.W.findIn K (.ref c_Locked) "__getattr__" = some none)
    (y6_Locked : PySem.W.subIn K (.ref c_Locked) (.type "BaseException") = some true)
    (y7_Locked : PySem.W.hasDictIn K c_Locked = true)
    (y8_Locked : PySem.W.findIn K (.ref c_Locked) "__class__" = some (some (.builtin "object.__class__")))
    (y9_Locked : PySem.W.specialIn K (.builtin "object.__class__") "__get__" = some (some (.builtin "getset_descriptor.__get__")))
    (y10_Locked : PySem.W.takesIn K (.builtin "object.__class__") = some true)
    (y11_Locked : PySem.W.mroIn K c_Locked (.type "object") = some true)
    (ka_MOST_BYTES : PySem.W.nsIn K mainGlobals "MOST_BYTES" = some (some u_MOST_BYTES))
    (kr_MOST_BYTES : RelV (.int 10000) u_MOST_BYTES)
    (ka_TOPS : PySem.W.nsIn K mainGlobals "TOPS" = some (some (.ref k_TOPS)))
    (kl_TOPS : K.lookup k_TOPS = some ⟨.type "dict", none, .dict kes_TOPS kn_TOPS, #[]⟩)
    (kw_TOPS : IntLit kes_TOPS.toList [(1, 255), (2, 65535), (4, 4294967295)])
    (em_BadNumber_Gone : PySem.W.exmOne K (.ref c_BadNumber) (.ref c_Gone) = some false)
    (em_BadWindow_Gone : PySem.W.exmOne K (.ref c_BadWindow) (.ref c_Gone) = some false)
    (em_BadCast_Gone : PySem.W.exmOne K (.ref c_BadCast) (.ref c_Gone) = some false)
    (em_BadIndex_Gone : PySem.W.exmOne K (.ref c_BadIndex) (.ref c_Gone) = some false)
    (em_BadBytes_Gone : PySem.W.exmOne K (.ref c_BadBytes) (.ref c_Gone) = some false)
    (em_Held_Gone : PySem.W.exmOne K (.ref c_Held) (.ref c_Gone) = some false)
    (em_Gone_Gone : PySem.W.exmOne K (.ref c_Gone) (.ref c_Gone) = some true)
    (em_Locked_Gone : PySem.W.exmOne K (.ref c_Locked) (.ref c_Gone) = some false)
    (em_BadValue_Gone : PySem.W.exmOne K (.ref c_BadValue) (.ref c_Gone) = some false)
    (em_KeyError_Gone : PySem.W.exmOne K (.type "KeyError") (.ref c_Gone) = some false)
    (em_BadNumber_Held : PySem.W.exmOne K (.ref c_BadNumber) (.ref c_Held) = some false)
    (em_BadWindow_Held : PySem.W.exmOne K (.ref c_BadWindow) (.ref c_Held) = some false)
    (em_BadCast_Held : PySem.W.exmOne K (.ref c_BadCast) (.ref c_Held) = some false)
    (em_BadIndex_Held : PySem.W.exmOne K (.ref c_BadIndex) (.ref c_Held) = some false)
    (em_BadBytes_Held : PySem.W.exmOne K (.ref c_BadBytes) (.ref c_Held) = some false)
    (em_Held_Held : PySem.W.exmOne K (.ref c_Held) (.ref c_Held) = some true)
    (em_Gone_Held : PySem.W.exmOne K (.ref c_Gone) (.ref c_Held) = some false)
    (em_Locked_Held : PySem.W.exmOne K (.ref c_Locked) (.ref c_Held) = some false)
    (em_BadValue_Held : PySem.W.exmOne K (.ref c_BadValue) (.ref c_Held) = some false)
    (em_KeyError_Held : PySem.W.exmOne K (.type "KeyError") (.ref c_Held) = some false)
    (em_BadNumber_KeyError : PySem.W.exmOne K (.ref c_BadNumber) (.type "KeyError") = some false)
    (em_BadWindow_KeyError : PySem.W.exmOne K (.ref c_BadWindow) (.type "KeyError") = some false)
    (em_BadCast_KeyError : PySem.W.exmOne K (.ref c_BadCast) (.type "KeyError") = some false)
    (em_BadIndex_KeyError : PySem.W.exmOne K (.ref c_BadIndex) (.type "KeyError") = some false)
    (em_BadBytes_KeyError : PySem.W.exmOne K (.ref c_BadBytes) (.type "KeyError") = some false)
    (em_Held_KeyError : PySem.W.exmOne K (.ref c_Held) (.type "KeyError") = some false)
    (em_Gone_KeyError : PySem.W.exmOne K (.ref c_Gone) (.type "KeyError") = some false)
    (em_Locked_KeyError : PySem.W.exmOne K (.ref c_Locked) (.type "KeyError") = some false)
    (em_BadValue_KeyError : PySem.W.exmOne K (.ref c_BadValue) (.type "KeyError") = some false)
    (io_View_NoneType : PySem.W.kitOne K (.type "NoneType") (.ref c_View) = some false)
    (io_View_int : PySem.W.kitOne K (.type "int") (.ref c_View) = some false)
    (io_View_bool : PySem.W.kitOne K (.type "bool") (.ref c_View) = some false)
    (io_View_str : PySem.W.kitOne K (.type "str") (.ref c_View) = some false)
    (io_View_tuple : PySem.W.kitOne K (.type "tuple") (.ref c_View) = some false)
    (io_View_list : PySem.W.kitOne K (.type "list") (.ref c_View) = some false)
    (io_View_dict : PySem.W.kitOne K (.type "dict") (.ref c_View) = some false)
    (oq_View : PySem.W.subIn K (.type "int") (.ref c_View) = some false)
    (ol_View : PySem.W.subIn K (.type "list") (.ref c_View) = some false)
    (sf_Form : PySem.W.selfFirst K c_Form = true)
    (os_Form : PySem.W.subIn K (.type "int") (.ref c_Form) = some false)
    (sf_View : PySem.W.selfFirst K c_View = true)
    (n_View : PySem.W.findIn K (.ref c_View) "__ne__" = some (some (.builtin "object.__ne__")))
    (or_Form___mul__ : PySem.W.findIn K (.ref c_Form) (PySem.dunderR Operator.Mult.info.2) = some none)
    (oi_Form___mul__ : PySem.W.findIn K (.type "int") (PySem.dunder Operator.Mult.info.2) = some fo1)
    (oj_Form___mul__ : PySem.W.findIn K (.type "int") (PySem.dunderR Operator.Mult.info.2) = some fo2)
    (fi_View___getitem__ : PySem.W.fnIn K f_View___getitem__ = true)
    (ns_View : PySem.W.noSeq K c_View = true)
    (z_KeyError : PySem.W.nsIn K mainGlobals "KeyError" = some none)
    (z_abs : PySem.W.nsIn K mainGlobals "abs" = some none)
    (z_all : PySem.W.nsIn K mainGlobals "all" = some none)
    (z_bool : PySem.W.nsIn K mainGlobals "bool" = some none)
    (z_enumerate : PySem.W.nsIn K mainGlobals "enumerate" = some none)
    (z_int : PySem.W.nsIn K mainGlobals "int" = some none)
    (z_isinstance : PySem.W.nsIn K mainGlobals "isinstance" = some none)
    (z_len : PySem.W.nsIn K mainGlobals "len" = some none)
    (z_list : PySem.W.nsIn K mainGlobals "list" = some none)
    (z_range : PySem.W.nsIn K mainGlobals "range" = some none)
    (z_reversed : PySem.W.nsIn K mainGlobals "reversed" = some none)
    (z_str : PySem.W.nsIn K mainGlobals "str" = some none)
    (z_tuple : PySem.W.nsIn K mainGlobals "tuple" = some none)
    : ∃ fd : FuncData, (∀ (s : Shared) (v : Value), BindsTo s fd ⟨[v], []⟩ [("_law_script", v)]) ∧ ∀ base : Heap, K.In base → base.Ns mainGlobals mg → FnOk l.prog w K mg base (L2.CX l.prog w) 14 fa fd ["_law_script"] (spLaw K) := by
  have e := hfa.symm.trans (PySem.W.mg_of X G a_law)
  cases e
  have X_BadNumber : XTxt l.prog K mg "BadNumber" c_BadNumber f_BadNumber___init__ "number" := xtxt_mk (PySem.W.mg_of X G a_BadNumber) ⟨_, _, _, _, _, _, _, _, _, _, _, _, _, _, _, x1_BadNumber, x2_BadNumber⟩ x3_BadNumber x4_BadNumber x5_BadNumber x6_BadNumber x7_BadNumber x8_BadNumber x9_BadNumber x10_BadNumber x11_BadNumber x12_BadNumber x13_BadNumber x14_BadNumber x15_BadNumber x16_BadNumber x17_BadNumber x18_BadNumber x19_BadNumber x20_BadNumber x21_BadNumber x22_BadNumber x23_BadNumber x24_BadNumber x25_BadNumber x26_BadNumber x27_BadNumber (PySem.W.mg_none_of X G x28_BadNumber) x29_BadNumber rfl rfl ⟨by decide +kernel, by decide +kernel, by decide +kernel, by decide +kernel, rfl, by decide +kernel, rfl, rfl⟩ (by decide +kernel) (by decide +kernel) rfl (fun s u v => .of_eq rfl)
  have X_BadWindow : XTxt l.prog K mg "BadWindow" c_BadWindow f_BadWindow___init__ "part" := xtxt_mk (PySem.W.mg_of X G a_BadWindow) ⟨_, _, _, _, _, _, _, _, _, _, _, _, _, _, _, x1_BadWindow, x2_BadWindow⟩ x3_BadWindow x4_BadWindow x5_BadWindow x6_BadWindow x7_BadWindow x8_BadWindow x9_BadWindow x10_BadWindow x11_BadWindow x12_BadWindow x13_BadWindow x14_BadWindow x15_BadWindow x16_BadWindow x17_BadWindow x18_BadWindow x19_BadWindow x20_BadWindow x21_BadWindow x22_BadWindow x23_BadWindow x24_BadWindow x25_BadWindow x26_BadWindow x27_BadWindow (PySem.W.mg_none_of X G x28_BadWindow) x29_BadWindow rfl rfl ⟨by decide +kernel, by decide +kernel, by decide +kernel, by decide +kernel, rfl, by decide +kernel, rfl, rfl⟩ (by decide +kernel) (by decide +kernel) rfl (fun s u v => .of_eq rfl)
  have X_BadIndex : XTxt l.prog K mg "BadIndex" c_BadIndex f_BadIndex___init__ "index" := xtxt_mk (PySem.W.mg_of X G a_BadIndex) ⟨_, _, _, _, _, _, _, _, _, _, _, _, _, _, _, x1_BadIndex, x2_BadIndex⟩ x3_BadIndex x4_BadIndex x5_BadIndex x6_BadIndex x7_BadIndex x8_BadIndex x9_BadIndex x10_BadIndex x11_BadIndex x12_BadIndex x13_BadIndex x14_BadIndex x15_BadIndex x16_BadIndex x17_BadIndex x18_BadIndex x19_BadIndex x20_BadIndex x21_BadIndex x22_BadIndex x23_BadIndex x24_BadIndex x25_BadIndex x26_BadIndex x27_BadIndex (PySem.W.mg_none_of X G x28_BadIndex) x29_BadIndex rfl rfl ⟨by decide +kernel, by decide +kernel, by decide +kernel, by decide +kernel, rfl, by decide +kernel, rfl, rfl⟩ (by decide +kernel) (by decide +kernel) rfl (fun s u v => .of_eq rfl)
  have X_BadBytes : XTxt l.prog K mg "BadBytes" c_BadBytes f_BadBytes___init__ "index" := xtxt_mk (PySem.W.mg_of X G a_BadBytes) ⟨_, _, _, _, _, _, _, _, _, _, _, _, _, _, _, x1_BadBytes, x2_BadBytes⟩ x3_BadBytes x4_BadBytes x5_BadBytes x6_BadBytes x7_BadBytes x8_BadBytes x9_BadBytes x10_BadBytes x11_BadBytes x12_BadBytes x13_BadBytes x14_BadBytes x15_BadBytes x16_BadBytes x17_BadBytes x18_BadBytes x19_BadBytes x20_BadBytes x21_BadBytes x22_BadBytes x23_BadBytes x24_BadBytes x25_BadBytes x26_BadBytes x27_BadBytes (PySem.W.mg_none_of X G x28_BadBytes) x29_BadBytes rfl rfl ⟨by decide +kernel, by decide +kernel, by decide +kernel, by decide +kernel, rfl, by decide +kernel, rfl, rfl⟩ (by decide +kernel) (by decide +kernel) rfl (fun s u v => .of_eq rfl)
  have X_BadValue : XTxt l.prog K mg "BadValue" c_BadValue f_BadValue___init__ "value" := xtxt_mk (PySem.W.mg_of X G a_BadValue) ⟨_, _, _, _, _, _, _, _, _, _, _, _, _, _, _, x1_BadValue, x2_BadValue⟩ x3_BadValue x4_BadValue x5_BadValue x6_BadValue x7_BadValue x8_BadValue x9_BadValue x10_BadValue x11_BadValue x12_BadValue x13_BadValue x14_BadValue x15_BadValue x16_BadValue x17_BadValue x18_BadValue x19_BadValue x20_BadValue x21_BadValue x22_BadValue x23_BadValue x24_BadValue x25_BadValue x26_BadValue x27_BadValue (PySem.W.mg_none_of X G x28_BadValue) x29_BadValue rfl rfl ⟨by decide +kernel, by decide +kernel, by decide +kernel, by decide +kernel, rfl, by decide +kernel, rfl, rfl⟩ (by decide +kernel) (by decide +kernel) rfl (fun s u v => .of_eq rfl)
  have T : Txt l.prog K mg ⟨c_BadNumber, c_BadWindow, c_BadCast, c_BadIndex, c_BadBytes, c_Held, c_Gone, c_Locked, c_BadValue, c_Form, c_Track, c_Window, c_View, c_Store, f_Form___init__, PySem.W.fnOf "__init__" "Form.__init__" (defArgs s_Form___init__) (defBody s_Form___init__) (defScope s_Form___init__) .none kV_Form___init__ dc_Form___init__ pm_Form___init__ an_Form___init__ cd_Form___init__ ct_Form___init__, f_Form___add__, PySem.W.fnOf "__add__" "Form.__add__" (defArgs s_Form___add__) (defBody s_Form___add__) (defScope s_Form___add__) .none kV_Form___add__ dc_Form___add__ pm_Form___add__ an_Form___add__ cd_Form___add__ ct_Form___add__, f_Form___sub__, PySem.W.fnOf "__sub__" "Form.__sub__" (defArgs s_Form___sub__) (defBody s_Form___sub__) (defScope s_Form___sub__) .none kV_Form___sub__ dc_Form___sub__ pm_Form___sub__ an_Form___sub__ cd_Form___sub__ ct_Form___sub__, f_Form___mul__, PySem.W.fnOf "__mul__" "Form.__mul__" (defArgs s_Form___mul__) (defBody s_Form___mul__) (defScope s_Form___mul__) .none kV_Form___mul__ dc_Form___mul__ pm_Form___mul__ an_Form___mul__ cd_Form___mul__ ct_Form___mul__, f_number_form, PySem.W.fnOf "number_form" "number_form" (defArgs s_number_form) (defBody s_number_form) (defScope s_number_form) .none kV_number_form dc_number_form pm_number_form an_number_form cd_number_form ct_number_form, f_Track___init__, PySem.W.fnOf "__init__" "Track.__init__" (defArgs s_Track___init__) (defBody s_Track___init__) (defScope s_Track___init__) .none kV_Track___init__ dc_Track___init__ pm_Track___init__ an_Track___init__ cd_Track___init__ ct_Track___init__, f_Track_narrow, PySem.W.fnOf "narrow" "Track.narrow" (defArgs s_Track_narrow) (defBody s_Track_narrow) (defScope s_Track_narrow) .none kV_Track_narrow dc_Track_narrow pm_Track_narrow an_Track_narrow cd_Track_narrow ct_Track_narrow, f_Track_below, PySem.W.fnOf "below" "Track.below" (defArgs s_Track_below) (defBody s_Track_below) (defScope s_Track_below) .none kV_Track_below dc_Track_below pm_Track_below an_Track_below cd_Track_below ct_Track_below, f_Track_divide, PySem.W.fnOf "divide" "Track.divide" (defArgs s_Track_divide) (defBody s_Track_divide) (defScope s_Track_divide) .none kV_Track_divide dc_Track_divide pm_Track_divide an_Track_divide cd_Track_divide ct_Track_divide, f_is_integer, PySem.W.fnOf "is_integer" "is_integer" (defArgs s_is_integer) (defBody s_is_integer) (defScope s_is_integer) .none kV_is_integer dc_is_integer pm_is_integer an_is_integer cd_is_integer ct_is_integer, f_limited, PySem.W.fnOf "limited" "limited" (defArgs s_limited) (defBody s_limited) (defScope s_limited) .none kV_limited dc_limited pm_limited an_limited cd_limited ct_limited, f_from_end, PySem.W.fnOf "from_end" "from_end" (defArgs s_from_end) (defBody s_from_end) (defScope s_from_end) .none kV_from_end dc_from_end pm_from_end an_from_end cd_from_end ct_from_end, f_chosen_cells, PySem.W.fnOf "chosen_cells" "chosen_cells" (defArgs s_chosen_cells) (defBody s_chosen_cells) (defScope s_chosen_cells) .none kV_chosen_cells dc_chosen_cells pm_chosen_cells an_chosen_cells cd_chosen_cells ct_chosen_cells, f_cast_count, PySem.W.fnOf "cast_count" "cast_count" (defArgs s_cast_count) (defBody s_cast_count) (defScope s_cast_count) .none kV_cast_count dc_cast_count pm_cast_count an_cast_count cd_cast_count ct_cast_count, f_Window___init__, PySem.W.fnOf "__init__" "Window.__init__" (defArgs s_Window___init__) (defBody s_Window___init__) (defScope s_Window___init__) .none kV_Window___init__ dc_Window___init__ pm_Window___init__ an_Window___init__ cd_Window___init__ ct_Window___init__, f_Window_sliced, PySem.W.fnOf "sliced" "Window.sliced" (defArgs s_Window_sliced) (defBody s_Window_sliced) (defScope s_Window_sliced) (.ref T_Window_sliced) kV_Window_sliced dc_Window_sliced pm_Window_sliced an_Window_sliced cd_Window_sliced ct_Window_sliced, f_Window_recast, PySem.W.fnOf "recast" "Window.recast" (defArgs s_Window_recast) (defBody s_Window_recast) (defScope s_Window_recast) .none kV_Window_recast dc_Window_recast pm_Window_recast an_Window_recast cd_Window_recast ct_Window_recast, f_View___init__, PySem.W.fnOf "__init__" "View.__init__" (defArgs s_View___init__) (defBody s_View___init__) (defScope s_View___init__) .none kV_View___init__ dc_View___init__ pm_View___init__ an_View___init__ cd_View___init__ ct_View___init__, f_View_alive, PySem.W.fnOf "alive" "View.alive" (defArgs s_View_alive) (defBody s_View_alive) (defScope s_View_alive) .none kV_View_alive dc_View_alive pm_View_alive an_View_alive cd_View_alive ct_View_alive, f_View_check, PySem.W.fnOf "check" "View.check" (defArgs s_View_check) (defBody s_View_check) (defScope s_View_check) .none kV_View_check dc_View_check pm_View_check an_View_check cd_View_check ct_View_check, f_View_places_of, PySem.W.fnOf "places_of" "View.places_of" (defArgs s_View_places_of) (defBody s_View_places_of) (defScope s_View_places_of) .none kV_View_places_of dc_View_places_of pm_View_places_of an_View_places_of cd_View_places_of ct_View_places_of, f_View_value_at, PySem.W.fnOf "value_at" "View.value_at" (defArgs s_View_value_at) (defBody s_View_value_at) (defScope s_View_value_at) .none kV_View_value_at dc_View_value_at pm_View_value_at an_View_value_at cd_View_value_at ct_View_value_at, f_View_give, PySem.W.fnOf "give" "View.give" (defArgs s_View_give) (defBody s_View_give) (defScope s_View_give) .none kV_View_give dc_View_give pm_View_give an_View_give cd_View_give ct_View_give, f_View_index_of, PySem.W.fnOf "index_of" "View.index_of" (defArgs s_View_index_of) (defBody s_View_index_of) (defScope s_View_index_of) .none kV_View_index_of dc_View_index_of pm_View_index_of an_View_index_of cd_View_index_of ct_View_index_of, f_View_sliced, PySem.W.fnOf "sliced" "View.sliced" (defArgs s_View_sliced) (defBody s_View_sliced) (defScope s_View_sliced) (.ref T_View_sliced) (.ref KD_View_sliced) dc_View_sliced pm_View_sliced an_View_sliced cd_View_sliced ct_View_sliced, f_View_cast, PySem.W.fnOf "cast" "View.cast" (defArgs s_View_cast) (defBody s_View_cast) (defScope s_View_cast) .none kV_View_cast dc_View_cast pm_View_cast an_View_cast cd_View_cast ct_View_cast, f_View_listed, PySem.W.fnOf "listed" "View.listed" (defArgs s_View_listed) (defBody s_View_listed) (defScope s_View_listed) .none kV_View_listed dc_View_listed pm_View_listed an_View_listed cd_View_listed ct_View_listed, f_View_during, PySem.W.fnOf "during" "View.during" (defArgs s_View_during) (defBody s_View_during) (defScope s_View_during) .none kV_View_during dc_View_during pm_View_during an_View_during cd_View_during ct_View_during, f_View___len__, PySem.W.fnOf "__len__" "View.__len__" (defArgs s_View___len__) (defBody s_View___len__) (defScope s_View___len__) .none kV_View___len__ dc_View___len__ pm_View___len__ an_View___len__ cd_View___len__ ct_View___len__, f_View___getitem__, PySem.W.fnOf "__getitem__" "View.__getitem__" (defArgs s_View___getitem__) (defBody s_View___getitem__) (defScope s_View___getitem__) .none kV_View___getitem__ dc_View___getitem__ pm_View___getitem__ an_View___getitem__ cd_View___getitem__ ct_View___getitem__, f_View___setitem__, PySem.W.fnOf "__setitem__" "View.__setitem__" (defArgs s_View___setitem__) (defBody s_View___setitem__) (defScope s_View___setitem__) .none kV_View___setitem__ dc_View___setitem__ pm_View___setitem__ an_View___setitem__ cd_View___setitem__ ct_View___setitem__, f_View___contains__, PySem.W.fnOf "__contains__" "View.__contains__" (defArgs s_View___contains__) (defBody s_View___contains__) (defScope s_View___contains__) .none kV_View___contains__ dc_View___contains__ pm_View___contains__ an_View___contains__ cd_View___contains__ ct_View___contains__, f_View___eq__, PySem.W.fnOf "__eq__" "View.__eq__" (defArgs s_View___eq__) (defBody s_View___eq__) (defScope s_View___eq__) .none kV_View___eq__ dc_View___eq__ pm_View___eq__ an_View___eq__ cd_View___eq__ ct_View___eq__, f_Store___init__, PySem.W.fnOf "__init__" "Store.__init__" (defArgs s_Store___init__) (defBody s_Store___init__) (defScope s_Store___init__) .none kV_Store___init__ dc_Store___init__ pm_Store___init__ an_Store___init__ cd_Store___init__ ct_Store___init__, f_Store_listed, PySem.W.fnOf "listed" "Store.listed" (defArgs s_Store_listed) (defBody s_Store_listed) (defScope s_Store_listed) .none kV_Store_listed dc_Store_listed pm_Store_listed an_Store_listed cd_Store_listed ct_Store_listed, f_Store_lent, PySem.W.fnOf "lent" "Store.lent" (defArgs s_Store_lent) (defBody s_Store_lent) (defScope s_Store_lent) .none kV_Store_lent dc_Store_lent pm_Store_lent an_Store_lent cd_Store_lent ct_Store_lent, f_Store_check_free, PySem.W.fnOf "check_free" "Store.check_free" (defArgs s_Store_check_free) (defBody s_Store_check_free) (defScope s_Store_check_free) .none kV_Store_check_free dc_Store_check_free pm_Store_check_free an_Store_check_free cd_Store_check_free ct_Store_check_free, f_Store_view, PySem.W.fnOf "view" "Store.view" (defArgs s_Store_view) (defBody s_Store_view) (defScope s_Store_view) .none kV_Store_view dc_Store_view pm_Store_view an_Store_view cd_Store_view ct_Store_view, f_Store_grow, PySem.W.fnOf "grow" "Store.grow" (defArgs s_Store_grow) (defBody s_Store_grow) (defScope s_Store_grow) .none kV_Store_grow dc_Store_grow pm_Store_grow an_Store_grow cd_Store_grow ct_Store_grow, f__law_same, PySem.W.fnOf "_law_same" "_law_same" (defArgs s__law_same) (defBody s__law_same) (defScope s__law_same) .none kV__law_same dc__law_same pm__law_same an__law_same cd__law_same ct__law_same, f__law_draw, PySem.W.fnOf "_law_draw" "_law_draw" (defArgs s__law_draw) (defBody s__law_draw) (defScope s__law_draw) .none kV__law_draw dc__law_draw pm__law_draw an__law_draw cd__law_draw ct__law_draw, f__law_value, PySem.W.fnOf "_law_value" "_law_value" (defArgs s__law_value) (defBody s__law_value) (defScope s__law_value) .none kV__law_value dc__law_value pm__law_value an__law_value cd__law_value ct__law_value, f__law_first, PySem.W.fnOf "_law_first" "_law_first" (defArgs s__law_first) (defBody s__law_first) (defScope s__law_first) .none kV__law_first dc__law_first pm__law_first an__law_first cd__law_first ct__law_first, f__law_raises, PySem.W.fnOf "_law_raises" "_law_raises" (defArgs s__law_raises) (defBody s__law_raises) (defScope s__law_raises) .none kV__law_raises dc__law_raises pm__law_raises an__law_raises cd__law_raises ct__law_raises, f__law_grows, PySem.W.fnOf "_law_grows" "_law_grows" (defArgs s__law_grows) (defBody s__law_grows) (defScope s__law_grows) .none kV__law_grows dc__law_grows pm__law_grows an__law_grows cd__law_grows ct__law_grows, f__law_during, PySem.W.fnOf "_law_during" "_law_during" (defArgs s__law_during) (defBody s__law_during) (defScope s__law_during) .none kV__law_during dc__law_during pm__law_during an__law_during cd__law_during ct__law_during, f__law_flag, PySem.W.fnOf "_law_flag" "_law_flag" (defArgs s__law_flag) (defBody s__law_flag) (defScope s__law_flag) .none kV__law_flag dc__law_flag pm__law_flag an__law_flag cd__law_flag ct__law_flag, f__law_gone, PySem.W.fnOf "_law_gone" "_law_gone" (defArgs s__law_gone) (defBody s__law_gone) (defScope s__law_gone) .none kV__law_gone dc__law_gone pm__law_gone an__law_gone cd__law_gone ct__law_gone, f__law_deeds, PySem.W.fnOf "_law_deeds" "_law_deeds" (defArgs s__law_deeds) (defBody s__law_deeds) (defScope s__law_deeds) .none kV__law_deeds dc__law_deeds pm__law_deeds an__law_deeds cd__law_deeds ct__law_deeds, fa, PySem.W.fnOf "law" "law" (defArgs s_law) (defBody s_law) (defScope s_law) .none kV_law dc_law pm_law an_law cd_law ct_law, k_TOPS, f_BadNumber___init__, f_BadWindow___init__, f_BadIndex___init__, f_BadBytes___init__, f_BadValue___init__, p_View_alive⟩ := {
    F_Form___init__ := fun_mk (st := s_Form___init__) l_Form___init__ c_Form___init__ k_Form___init__,
    b_Form___init__ := (fun_mk (st := s_Form___init__) l_Form___init__ c_Form___init__ k_Form___init__).binds (ps := ["self", "alpha", "beta"]) fun _ _ _ _ _ _ us hl => match us, hl with | [_, _, _], _ => rfl,
    mt_Form___init__ := ⟨a_Form___init__, i_Form___init__, k_Form___init__⟩,
    F_Form___add__ := fun_mk (st := s_Form___add__) l_Form___add__ c_Form___add__ k_Form___add__,
    b_Form___add__ := (fun_mk (st := s_Form___add__) l_Form___add__ c_Form___add__ k_Form___add__).binds (ps := ["self", "other"]) fun _ _ _ _ _ _ us hl => match us, hl with | [_, _], _ => rfl,
    mt_Form___add__ := ⟨a_Form___add__, i_Form___add__, k_Form___add__⟩,
    F_Form___sub__ := fun_mk (st := s_Form___sub__) l_Form___sub__ c_Form___sub__ k_Form___sub__,
    b_Form___sub__ := (fun_mk (st := s_Form___sub__) l_Form___sub__ c_Form___sub__ k_Form___sub__).binds (ps := ["self", "other"]) fun _ _ _ _ _ _ us hl => match us, hl with | [_, _], _ => rfl,
    mt_Form___sub__ := ⟨a_Form___sub__, i_Form___sub__, k_Form___sub__⟩,
    F_Form___mul__ := fun_mk (st := s_Form___mul__) l_Form___mul__ c_Form___mul__ k_Form___mul__,
    b_Form___mul__ := (fun_mk (st := s_Form___mul__) l_Form___mul__ c_Form___mul__ k_Form___mul__).binds (ps := ["self", "number"]) fun _ _ _ _ _ _ us hl => match us, hl with | [_, _], _ => rfl,
    mt_Form___mul__ := ⟨a_Form___mul__, i_Form___mul__, k_Form___mul__⟩,
    F_number_form := fun_mk (st := s_number_form) l_number_form c_number_form k_number_form,
    b_number_form := (fun_mk (st := s_number_form) l_number_form c_number_form k_number_form).binds (ps := ["number"]) fun _ _ _ _ _ _ us hl => match us, hl with | [_], _ => rfl,
    g_number_form := PySem.W.mg_of X G a_number_form,
    kp_number_form := k_number_form,
    F_Track___init__ := fun_mk (st := s_Track___init__) l_Track___init__ c_Track___init__ k_Track___init__,
    b_Track___init__ := (fun_mk (st := s_Track___init__) l_Track___init__ c_Track___init__ k_Track___init__).binds (ps := ["self"]) fun _ _ _ _ _ _ us hl => match us, hl with | [_], _ => rfl,
    mt_Track___init__ := ⟨a_Track___init__, i_Track___init__, k_Track___init__⟩,
    F_Track_narrow := fun_mk (st := s_Track_narrow) l_Track_narrow c_Track_narrow k_Track_narrow,
    b_Track_narrow := (fun_mk (st := s_Track_narrow) l_Track_narrow c_Track_narrow k_Track_narrow).binds (ps := ["self", "last"]) fun _ _ _ _ _ _ us hl => match us, hl with | [_, _], _ => rfl,
    mt_Track_narrow := ⟨a_Track_narrow, i_Track_narrow, k_Track_narrow⟩,
    F_Track_below := fun_mk (st := s_Track_below) l_Track_below c_Track_below k_Track_below,
    b_Track_below := (fun_mk (st := s_Track_below) l_Track_below c_Track_below k_Track_below).binds (ps := ["self", "f", "g"]) fun _ _ _ _ _ _ us hl => match us, hl with | [_, _, _], _ => rfl,
    mt_Track_below := ⟨a_Track_below, i_Track_below, k_Track_below⟩,
    F_Track_divide := fun_mk (st := s_Track_divide) l_Track_divide c_Track_divide k_Track_divide,
    b_Track_divide := (fun_mk (st := s_Track_divide) l_Track_divide c_Track_divide k_Track_divide).binds (ps := ["self", "f", "number"]) fun _ _ _ _ _ _ us hl => match us, hl with | [_, _, _], _ => rfl,
    mt_Track_divide := ⟨a_Track_divide, i_Track_divide, k_Track_divide⟩,
    F_is_integer := fun_mk (st := s_is_integer) l_is_integer c_is_integer k_is_integer,
    b_is_integer := (fun_mk (st := s_is_integer) l_is_integer c_is_integer k_is_integer).binds (ps := ["value", "low", "high"]) fun _ _ _ _ _ _ us hl => match us, hl with | [_, _, _], _ => rfl,
    g_is_integer := PySem.W.mg_of X G a_is_integer,
    kp_is_integer := k_is_integer,
    F_limited := fun_mk (st := s_limited) l_limited c_limited k_limited,
    b_limited := (fun_mk (st := s_limited) l_limited c_limited k_limited).binds (ps := ["track", "index", "low", "high"]) fun _ _ _ _ _ _ us hl => match us, hl with | [_, _, _, _], _ => rfl,
    g_limited := PySem.W.mg_of X G a_limited,
    kp_limited := k_limited,
    F_from_end := fun_mk (st := s_from_end) l_from_end c_from_end k_from_end,
    b_from_end := (fun_mk (st := s_from_end) l_from_end c_from_end k_from_end).binds (ps := ["track", "index", "count"]) fun _ _ _ _ _ _ us hl => match us, hl with | [_, _, _], _ => rfl,
    g_from_end := PySem.W.mg_of X G a_from_end,
    kp_from_end := k_from_end,
    F_chosen_cells := fun_mk (st := s_chosen_cells) l_chosen_cells c_chosen_cells k_chosen_cells,
    b_chosen_cells := (fun_mk (st := s_chosen_cells) l_chosen_cells c_chosen_cells k_chosen_cells).binds (ps := ["track", "count", "first", "last", "step"]) fun _ _ _ _ _ _ us hl => match us, hl with | [_, _, _, _, _], _ => rfl,
    g_chosen_cells := PySem.W.mg_of X G a_chosen_cells,
    kp_chosen_cells := k_chosen_cells,
    F_cast_count := fun_mk (st := s_cast_count) l_cast_count c_cast_count k_cast_count,
    b_cast_count := (fun_mk (st := s_cast_count) l_cast_count c_cast_count k_cast_count).binds (ps := ["track", "step", "count", "size", "new_size"]) fun _ _ _ _ _ _ us hl => match us, hl with | [_, _, _, _, _], _ => rfl,
    g_cast_count := PySem.W.mg_of X G a_cast_count,
    kp_cast_count := k_cast_count,
    F_Window___init__ := fun_mk (st := s_Window___init__) l_Window___init__ c_Window___init__ k_Window___init__,
    b_Window___init__ := (fun_mk (st := s_Window___init__) l_Window___init__ c_Window___init__ k_Window___init__).binds (ps := ["self", "start", "step", "count", "size"]) fun _ _ _ _ _ _ us hl => match us, hl with | [_, _, _, _, _], _ => rfl,
    mt_Window___init__ := ⟨a_Window___init__, i_Window___init__, k_Window___init__⟩,
    F_Window_sliced := ⟨⟨_, _, _, _, _, _, _, _, _, _, rfl, l_Window_sliced, c_Window_sliced, .inr ⟨by simp, T_Window_sliced, _, dits_Window_sliced.toList, dn_Window_sliced, rfl, dl_Window_sliced, (by simp), dv_Window_sliced⟩, .inl rfl⟩, k_Window_sliced⟩,
    mt_Window_sliced := ⟨a_Window_sliced, i_Window_sliced, k_Window_sliced⟩,
    F_Window_recast := fun_mk (st := s_Window_recast) l_Window_recast c_Window_recast k_Window_recast,
    b_Window_recast := (fun_mk (st := s_Window_recast) l_Window_recast c_Window_recast k_Window_recast).binds (ps := ["self", "size"]) fun _ _ _ _ _ _ us hl => match us, hl with | [_, _], _ => rfl,
    mt_Window_recast := ⟨a_Window_recast, i_Window_recast, k_Window_recast⟩,
    F_View___init__ := fun_mk (st := s_View___init__) l_View___init__ c_View___init__ k_View___init__,
    b_View___init__ := (fun_mk (st := s_View___init__) l_View___init__ c_View___init__ k_View___init__).binds (ps := ["self", "cells", "window", "locked", "lent_out"]) fun _ _ _ _ _ _ us hl => match us, hl with | [_, _, _, _, _], _ => rfl,
    mt_View___init__ := ⟨a_View___init__, i_View___init__, k_View___init__⟩,
    F_View_alive := fun_mk (st := s_View_alive) l_View_alive c_View_alive k_View_alive,
    b_View_alive := (fun_mk (st := s_View_alive) l_View_alive c_View_alive k_View_alive).binds (ps := ["self"]) fun _ _ _ _ _ _ us hl => match us, hl with | [_], _ => rfl,
    pr_View_alive := ⟨a_View_alive, gp_View_alive, tp_View_alive, ⟨_, rp_View_alive⟩⟩,
    F_View_check := fun_mk (st := s_View_check) l_View_check c_View_check k_View_check,
    b_View_check := (fun_mk (st := s_View_check) l_View_check c_View_check k_View_check).binds (ps := ["self"]) fun _ _ _ _ _ _ us hl => match us, hl with | [_], _ => rfl,
    mt_View_check := ⟨a_View_check, i_View_check, k_View_check⟩,
    F_View_places_of := fun_mk (st := s_View_places_of) l_View_places_of c_View_places_of k_View_places_of,
    b_View_places_of := (fun_mk (st := s_View_places_of) l_View_places_of c_View_places_of k_View_places_of).binds (ps := ["self", "at"]) fun _ _ _ _ _ _ us hl => match us, hl with | [_, _], _ => rfl,
    mt_View_places_of := ⟨a_View_places_of, i_View_places_of, k_View_places_of⟩,
    F_View_value_at := fun_mk (st := s_View_value_at) l_View_value_at c_View_value_at k_View_value_at,
    b_View_value_at := (fun_mk (st := s_View_value_at) l_View_value_at c_View_value_at k_View_value_at).binds (ps := ["self", "at"]) fun _ _ _ _ _ _ us hl => match us, hl with | [_, _], _ => rfl,
    mt_View_value_at := ⟨a_View_value_at, i_View_value_at, k_View_value_at⟩,
    F_View_give := fun_mk (st := s_View_give) l_View_give c_View_give k_View_give,
    b_View_give := (fun_mk (st := s_View_give) l_View_give c_View_give k_View_give).binds (ps := ["self", "at", "value"]) fun _ _ _ _ _ _ us hl => match us, hl with | [_, _, _], _ => rfl,
    mt_View_give := ⟨a_View_give, i_View_give, k_View_give⟩,
    F_View_index_of := fun_mk (st := s_View_index_of) l_View_index_of c_View_index_of k_View_index_of,
    b_View_index_of := (fun_mk (st := s_View_index_of) l_View_index_of c_View_index_of k_View_index_of).binds (ps := ["self", "index"]) fun _ _ _ _ _ _ us hl => match us, hl with | [_, _], _ => rfl,
    mt_View_index_of := ⟨a_View_index_of, i_View_index_of, k_View_index_of⟩,
    F_View_sliced := ⟨⟨_, _, _, _, _, _, _, _, _, _, rfl, l_View_sliced, c_View_sliced, .inr ⟨by simp, T_View_sliced, _, dits_View_sliced.toList, dn_View_sliced, rfl, dl_View_sliced, (by simp), dv_View_sliced⟩, .inr ⟨KD_View_sliced, rfl, fun z hz => by rw [List.mem_singleton] at hz; subst hz; exact ⟨_, kd_View_sliced, rfl⟩⟩⟩, k_View_sliced⟩,
    mt_View_sliced := ⟨a_View_sliced, i_View_sliced, k_View_sliced⟩,
    F_View_cast := fun_mk (st := s_View_cast) l_View_cast c_View_cast k_View_cast,
    b_View_cast := (fun_mk (st := s_View_cast) l_View_cast c_View_cast k_View_cast).binds (ps := ["self", "size"]) fun _ _ _ _ _ _ us hl => match us, hl with | [_, _], _ => rfl,
    mt_View_cast := ⟨a_View_cast, i_View_cast, k_View_cast⟩,
    F_View_listed := fun_mk (st := s_View_listed) l_View_listed c_View_listed k_View_listed,
    b_View_listed := (fun_mk (st := s_View_listed) l_View_listed c_View_listed k_View_listed).binds (ps := ["self"]) fun _ _ _ _ _ _ us hl => match us, hl with | [_], _ => rfl,
    mt_View_listed := ⟨a_View_listed, i_View_listed, k_View_listed⟩,
    F_View_during := fun_mk (st := s_View_during) l_View_during c_View_during k_View_during,
    b_View_during := (fun_mk (st := s_View_during) l_View_during c_View_during k_View_during).binds (ps := ["self", "deed"]) fun _ _ _ _ _ _ us hl => match us, hl with | [_, _], _ => rfl,
    mt_View_during := ⟨a_View_during, i_View_during, k_View_during⟩,
    F_View___len__ := fun_mk (st := s_View___len__) l_View___len__ c_View___len__ k_View___len__,
    b_View___len__ := (fun_mk (st := s_View___len__) l_View___len__ c_View___len__ k_View___len__).binds (ps := ["self"]) fun _ _ _ _ _ _ us hl => match us, hl with | [_], _ => rfl,
    mt_View___len__ := ⟨a_View___len__, i_View___len__, k_View___len__⟩,
    F_View___getitem__ := fun_mk (st := s_View___getitem__) l_View___getitem__ c_View___getitem__ k_View___getitem__,
    b_View___getitem__ := (fun_mk (st := s_View___getitem__) l_View___getitem__ c_View___getitem__ k_View___getitem__).binds (ps := ["self", "index"]) fun _ _ _ _ _ _ us hl => match us, hl with | [_, _], _ => rfl,
    mt_View___getitem__ := ⟨a_View___getitem__, i_View___getitem__, k_View___getitem__⟩,
    F_View___setitem__ := fun_mk (st := s_View___setitem__) l_View___setitem__ c_View___setitem__ k_View___setitem__,
    b_View___setitem__ := (fun_mk (st := s_View___setitem__) l_View___setitem__ c_View___setitem__ k_View___setitem__).binds (ps := ["self", "index", "value"]) fun _ _ _ _ _ _ us hl => match us, hl with | [_, _, _], _ => rfl,
    mt_View___setitem__ := ⟨a_View___setitem__, i_View___setitem__, k_View___setitem__⟩,
    F_View___contains__ := fun_mk (st := s_View___contains__) l_View___contains__ c_View___contains__ k_View___contains__,
    b_View___contains__ := (fun_mk (st := s_View___contains__) l_View___contains__ c_View___contains__ k_View___contains__).binds (ps := ["self", "value"]) fun _ _ _ _ _ _ us hl => match us, hl with | [_, _], _ => rfl,
    mt_View___contains__ := ⟨a_View___contains__, i_View___contains__, k_View___contains__⟩,
    F_View___eq__ := fun_mk (st := s_View___eq__) l_View___eq__ c_View___eq__ k_View___eq__,
    b_View___eq__ := (fun_mk (st := s_View___eq__) l_View___eq__ c_View___eq__ k_View___eq__).binds (ps := ["self", "other"]) fun _ _ _ _ _ _ us hl => match us, hl with | [_, _], _ => rfl,
    mt_View___eq__ := ⟨a_View___eq__, i_View___eq__, k_View___eq__⟩,
    F_Store___init__ := fun_mk (st := s_Store___init__) l_Store___init__ c_Store___init__ k_Store___init__,
    b_Store___init__ := (fun_mk (st := s_Store___init__) l_Store___init__ c_Store___init__ k_Store___init__).binds (ps := ["self", "values"]) fun _ _ _ _ _ _ us hl => match us, hl with | [_, _], _ => rfl,
    mt_Store___init__ := ⟨a_Store___init__, i_Store___init__, k_Store___init__⟩,
    F_Store_listed := fun_mk (st := s_Store_listed) l_Store_listed c_Store_listed k_Store_listed,
    b_Store_listed := (fun_mk (st := s_Store_listed) l_Store_listed c_Store_listed k_Store_listed).binds (ps := ["self"]) fun _ _ _ _ _ _ us hl => match us, hl with | [_], _ => rfl,
    mt_Store_listed := ⟨a_Store_listed, i_Store_listed, k_Store_listed⟩,
    F_Store_lent := fun_mk (st := s_Store_lent) l_Store_lent c_Store_lent k_Store_lent,
    b_Store_lent := (fun_mk (st := s_Store_lent) l_Store_lent c_Store_lent k_Store_lent).binds (ps := ["self"]) fun _ _ _ _ _ _ us hl => match us, hl with | [_], _ => rfl,
    mt_Store_lent := ⟨a_Store_lent, i_Store_lent, k_Store_lent⟩,
    F_Store_check_free := fun_mk (st := s_Store_check_free) l_Store_check_free c_Store_check_free k_Store_check_free,
    b_Store_check_free := (fun_mk (st := s_Store_check_free) l_Store_check_free c_Store_check_free k_Store_check_free).binds (ps := ["self"]) fun _ _ _ _ _ _ us hl => match us, hl with | [_], _ => rfl,
    mt_Store_check_free := ⟨a_Store_check_free, i_Store_check_free, k_Store_check_free⟩,
    F_Store_view := fun_mk (st := s_Store_view) l_Store_view c_Store_view k_Store_view,
    b_Store_view := (fun_mk (st := s_Store_view) l_Store_view c_Store_view k_Store_view).binds (ps := ["self"]) fun _ _ _ _ _ _ us hl => match us, hl with | [_], _ => rfl,
    mt_Store_view := ⟨a_Store_view, i_Store_view, k_Store_view⟩,
    F_Store_grow := fun_mk (st := s_Store_grow) l_Store_grow c_Store_grow k_Store_grow,
    b_Store_grow := (fun_mk (st := s_Store_grow) l_Store_grow c_Store_grow k_Store_grow).binds (ps := ["self", "count"]) fun _ _ _ _ _ _ us hl => match us, hl with | [_, _], _ => rfl,
    mt_Store_grow := ⟨a_Store_grow, i_Store_grow, k_Store_grow⟩,
    F__law_same := fun_mk (st := s__law_same) l__law_same c__law_same k__law_same,
    b__law_same := (fun_mk (st := s__law_same) l__law_same c__law_same k__law_same).binds (ps := ["_law_told", "_law_due"]) fun _ _ _ _ _ _ us hl => match us, hl with | [_, _], _ => rfl,
    g__law_same := PySem.W.mg_of X G a__law_same,
    kp__law_same := k__law_same,
    F__law_draw := fun_mk (st := s__law_draw) l__law_draw c__law_draw k__law_draw,
    b__law_draw := (fun_mk (st := s__law_draw) l__law_draw c__law_draw k__law_draw).binds (ps := ["_law_pool", "_law_many"]) fun _ _ _ _ _ _ us hl => match us, hl with | [_, _], _ => rfl,
    g__law_draw := PySem.W.mg_of X G a__law_draw,
    kp__law_draw := k__law_draw,
    F__law_value := fun_mk (st := s__law_value) l__law_value c__law_value k__law_value,
    b__law_value := (fun_mk (st := s__law_value) l__law_value c__law_value k__law_value).binds (ps := ["_law_parts"]) fun _ _ _ _ _ _ us hl => match us, hl with | [_], _ => rfl,
    g__law_value := PySem.W.mg_of X G a__law_value,
    kp__law_value := k__law_value,
    F__law_first := fun_mk (st := s__law_first) l__law_first c__law_first k__law_first,
    b__law_first := (fun_mk (st := s__law_first) l__law_first c__law_first k__law_first).binds (ps := ["_law_view"]) fun _ _ _ _ _ _ us hl => match us, hl with | [_], _ => rfl,
    g__law_first := PySem.W.mg_of X G a__law_first,
    kp__law_first := k__law_first,
    F__law_raises := fun_mk (st := s__law_raises) l__law_raises c__law_raises k__law_raises,
    b__law_raises := (fun_mk (st := s__law_raises) l__law_raises c__law_raises k__law_raises).binds (ps := ["_law_view"]) fun _ _ _ _ _ _ us hl => match us, hl with | [_], _ => rfl,
    g__law_raises := PySem.W.mg_of X G a__law_raises,
    kp__law_raises := k__law_raises,
    F__law_grows := fun_mk (st := s__law_grows) l__law_grows c__law_grows k__law_grows,
    b__law_grows := (fun_mk (st := s__law_grows) l__law_grows c__law_grows k__law_grows).binds (ps := ["_law_view"]) fun _ _ _ _ _ _ us hl => match us, hl with | [_], _ => rfl,
    g__law_grows := PySem.W.mg_of X G a__law_grows,
    kp__law_grows := k__law_grows,
    F__law_during := fun_mk (st := s__law_during) l__law_during c__law_during k__law_during,
    b__law_during := (fun_mk (st := s__law_during) l__law_during c__law_during k__law_during).binds (ps := ["_law_view", "_law_way"]) fun _ _ _ _ _ _ us hl => match us, hl with | [_, _], _ => rfl,
    g__law_during := PySem.W.mg_of X G a__law_during,
    kp__law_during := k__law_during,
    F__law_flag := fun_mk (st := s__law_flag) l__law_flag c__law_flag k__law_flag,
    b__law_flag := (fun_mk (st := s__law_flag) l__law_flag c__law_flag k__law_flag).binds (ps := ["_law_flag_here", "_law_due"]) fun _ _ _ _ _ _ us hl => match us, hl with | [_, _], _ => rfl,
    g__law_flag := PySem.W.mg_of X G a__law_flag,
    kp__law_flag := k__law_flag,
    F__law_gone := fun_mk (st := s__law_gone) l__law_gone c__law_gone k__law_gone,
    b__law_gone := (fun_mk (st := s__law_gone) l__law_gone c__law_gone k__law_gone).binds (ps := ["_law_view"]) fun _ _ _ _ _ _ us hl => match us, hl with | [_], _ => rfl,
    g__law_gone := PySem.W.mg_of X G a__law_gone,
    kp__law_gone := k__law_gone,
    F__law_deeds := fun_mk (st := s__law_deeds) l__law_deeds c__law_deeds k__law_deeds,
    b__law_deeds := (fun_mk (st := s__law_deeds) l__law_deeds c__law_deeds k__law_deeds).binds (ps := ["_law_pool", "_law_store", "_law_view", "_law_cells"]) fun _ _ _ _ _ _ us hl => match us, hl with | [_, _, _, _], _ => rfl,
    g__law_deeds := PySem.W.mg_of X G a__law_deeds,
    kp__law_deeds := k__law_deeds,
    F_law := fun_mk (st := s_law) l_law c_law k_law,
    b_law := (fun_mk (st := s_law) l_law c_law k_law).binds (ps := ["_law_script"]) fun _ _ _ _ _ _ us hl => match us, hl with | [_], _ => rfl,
    g_law := PySem.W.mg_of X G a_law,
    kp_law := k_law,
    g_BadNumber := PySem.W.mg_of X G a_BadNumber,
    g_BadWindow := PySem.W.mg_of X G a_BadWindow,
    g_BadCast := PySem.W.mg_of X G a_BadCast,
    g_BadIndex := PySem.W.mg_of X G a_BadIndex,
    g_BadBytes := PySem.W.mg_of X G a_BadBytes,
    g_Held := PySem.W.mg_of X G a_Held,
    g_Gone := PySem.W.mg_of X G a_Gone,
    g_Locked := PySem.W.mg_of X G a_Locked,
    g_BadValue := PySem.W.mg_of X G a_BadValue,
    g_Form := PySem.W.mg_of X G a_Form,
    cl_Form := ⟨pg_Form, hd_Form, po_Form, sa_Form⟩,
    mk_Form := ⟨mk_Form, a_Form___init__, i_Form___init__, kc_Form⟩,
    na_Form_alpha := na_Form_alpha,
    na_Form_beta := na_Form_beta,
    ic_Form := ⟨⟨pg_Form, hd_Form, po_Form, sa_Form⟩, i1_Form, i2_Form, i3_Form, i4_Form, i5_Form⟩,
    g_Track := PySem.W.mg_of X G a_Track,
    cl_Track := ⟨pg_Track, hd_Track, po_Track, sa_Track⟩,
    mk_Track := ⟨mk_Track, a_Track___init__, i_Track___init__, kc_Track⟩,
    na_Track_until := na_Track_until,
    ic_Track := ⟨⟨pg_Track, hd_Track, po_Track, sa_Track⟩, i1_Track, i2_Track, i3_Track, i4_Track, i5_Track⟩,
    g_Window := PySem.W.mg_of X G a_Window,
    cl_Window := ⟨pg_Window, hd_Window, po_Window, sa_Window⟩,
    mk_Window := ⟨mk_Window, a_Window___init__, i_Window___init__, kc_Window⟩,
    na_Window_start := na_Window_start,
    na_Window_step := na_Window_step,
    na_Window_count := na_Window_count,
    na_Window_size := na_Window_size,
    ic_Window := ⟨⟨pg_Window, hd_Window, po_Window, sa_Window⟩, i1_Window, i2_Window, i3_Window, i4_Window, i5_Window⟩,
    g_View := PySem.W.mg_of X G a_View,
    cl_View := ⟨pg_View, hd_View, po_View, sa_View⟩,
    mk_View := ⟨mk_View, a_View___init__, i_View___init__, kc_View⟩,
    na_View_cells := na_View_cells,
    na_View_window := na_View_window,
    na_View_locked := na_View_locked,
    na_View_size := na_View_size,
    na_View_lent_out := na_View_lent_out,
    na_View_closed := na_View_closed,
    ic_View := ⟨⟨pg_View, hd_View, po_View, sa_View⟩, i1_View, i2_View, i3_View, i4_View, i5_View⟩,
    g_Store := PySem.W.mg_of X G a_Store,
    cl_Store := ⟨pg_Store, hd_Store, po_Store, sa_Store⟩,
    mk_Store := ⟨mk_Store, a_Store___init__, i_Store___init__, kc_Store⟩,
    na_Store_cells := na_Store_cells,
    na_Store_lent_out := na_Store_lent_out,
    ic_Store := ⟨⟨pg_Store, hd_Store, po_Store, sa_Store⟩, i1_Store, i2_Store, i3_Store, i4_Store, i5_Store⟩,
    x_BadNumber := X_BadNumber,
    x_BadWindow := X_BadWindow,
    x_BadIndex := X_BadIndex,
    x_BadBytes := X_BadBytes,
    x_BadValue := X_BadValue,
    y_BadCast := ⟨PySem.W.mg_of X G a_BadCast, y1_BadCast, y2_BadCast, y3_BadCast, ⟨y4_BadCast, y5_BadCast, y6_BadCast, y7_BadCast, y8_BadCast, y9_BadCast, y10_BadCast, y11_BadCast⟩⟩,
    y_Gone := ⟨PySem.W.mg_of X G a_Gone, y1_Gone, y2_Gone, y3_Gone, ⟨y4_Gone, y5_Gone, y6_Gone, y7_Gone, y8_Gone, y9_Gone, y10_Gone, y11_Gone⟩⟩,
    y_Held := ⟨PySem.W.mg_of X G a_Held, y1_Held, y2_Held, y3_Held, ⟨y4_Held, y5_Held, y6_Held, y7_Held, y8_Held, y9_Held, y10_Held, y11_Held⟩⟩,
    y_Locked := ⟨PySem.W.mg_of X G a_Locked, y1_Locked, y2_Locked, y3_Locked, ⟨y4_Locked, y5_Locked, y6_Locked, y7_Locked, y8_Locked, y9_Locked, y10_Locked, y11_Locked⟩⟩,
    em_BadNumber_Gone := em_BadNumber_Gone,
    em_BadWindow_Gone := em_BadWindow_Gone,
    em_BadCast_Gone := em_BadCast_Gone,
    em_BadIndex_Gone := em_BadIndex_Gone,
    em_BadBytes_Gone := em_BadBytes_Gone,
    em_Held_Gone := em_Held_Gone,
    em_Gone_Gone := em_Gone_Gone,
    em_Locked_Gone := em_Locked_Gone,
    em_BadValue_Gone := em_BadValue_Gone,
    em_KeyError_Gone := em_KeyError_Gone,
    em_BadNumber_Held := em_BadNumber_Held,
    em_BadWindow_Held := em_BadWindow_Held,
    em_BadCast_Held := em_BadCast_Held,
    em_BadIndex_Held := em_BadIndex_Held,
    em_BadBytes_Held := em_BadBytes_Held,
    em_Held_Held := em_Held_Held,
    em_Gone_Held := em_Gone_Held,
    em_Locked_Held := em_Locked_Held,
    em_BadValue_Held := em_BadValue_Held,
    em_KeyError_Held := em_KeyError_Held,
    em_BadNumber_KeyError := em_BadNumber_KeyError,
    em_BadWindow_KeyError := em_BadWindow_KeyError,
    em_BadCast_KeyError := em_BadCast_KeyError,
    em_BadIndex_KeyError := em_BadIndex_KeyError,
    em_BadBytes_KeyError := em_BadBytes_KeyError,
    em_Held_KeyError := em_Held_KeyError,
    em_Gone_KeyError := em_Gone_KeyError,
    em_Locked_KeyError := em_Locked_KeyError,
    em_BadValue_KeyError := em_BadValue_KeyError,
    io_View_NoneType := io_View_NoneType,
    io_View_int := io_View_int,
    io_View_bool := io_View_bool,
    io_View_str := io_View_str,
    io_View_tuple := io_View_tuple,
    io_View_list := io_View_list,
    io_View_dict := io_View_dict,
    sf_Form := sf_Form,
    os_Form := os_Form,
    sf_View := sf_View,
    n_View := n_View,
    m_View := i4_View,
    oq_View := oq_View,
    ol_View := ol_View,
    o_Form___add__ := ⟨a_Form___add__, i_Form___add__⟩,
    o_Form___mul__ := ⟨a_Form___mul__, i_Form___mul__⟩,
    or_Form___mul__ := or_Form___mul__,
    oi_Form___mul__ := ⟨_, oi_Form___mul__⟩,
    oj_Form___mul__ := ⟨_, oj_Form___mul__⟩,
    o_Form___sub__ := ⟨a_Form___sub__, i_Form___sub__⟩,
    o_View___contains__ := ⟨a_View___contains__, i_View___contains__⟩,
    o_View___eq__ := ⟨a_View___eq__, i_View___eq__⟩,
    o_View___getitem__ := ⟨a_View___getitem__, i_View___getitem__⟩,
    fi_View___getitem__ := fi_View___getitem__,
    o_View___len__ := ⟨a_View___len__, i_View___len__⟩,
    o_View___setitem__ := ⟨a_View___setitem__, i_View___setitem__⟩,
    ns_View := ns_View,
    k_MOST_BYTES := ⟨u_MOST_BYTES, PySem.W.mg_of X G ka_MOST_BYTES, kr_MOST_BYTES⟩,
    k_TOPS := PySem.W.mg_of X G ka_TOPS,
    q_TOPS := ⟨kes_TOPS, kn_TOPS, kl_TOPS, kw_TOPS⟩,
    z_KeyError := PySem.W.mg_none_of X G z_KeyError,
    z_abs := PySem.W.mg_none_of X G z_abs,
    z_all := PySem.W.mg_none_of X G z_all,
    z_bool := PySem.W.mg_none_of X G z_bool,
    z_enumerate := PySem.W.mg_none_of X G z_enumerate,
    z_int := PySem.W.mg_none_of X G z_int,
    z_isinstance := PySem.W.mg_none_of X G z_isinstance,
    z_len := PySem.W.mg_none_of X G z_len,
    z_list := PySem.W.mg_none_of X G z_list,
    z_range := PySem.W.mg_none_of X G z_range,
    z_reversed := PySem.W.mg_none_of X G z_reversed,
    z_str := PySem.W.mg_none_of X G z_str,
    z_tuple := PySem.W.mg_none_of X G z_tuple }
  exact ⟨PySem.W.fnOf "law" "law" (defArgs s_law) (defBody s_law) (defScope s_law) .none kV_law dc_law pm_law an_law cd_law ct_law, fun s v => .of_eq rfl, fun base _ _ => (ok_law T).imp fun vs H Q E h => law_imp h⟩
theorem walk {l : PySem.W.OpenLaw} {q : Program} {loose : List Str} {XP : (Str → Option Value) → Heap → Prop} {YP : World → Heap → Prop} {d : DefRec} {K : Params → PySem.W.Frag} (hn : l.most = some 63) (hdf : d.params.defaults = [])
    (hY : ∀ (w : World) (h : Heap), YP w h → (K w.params).In h)
    (F : ∀ (w : World) (mg : Str → Option Value) (fa : Addr) (h : Heap), (K w.params).In h → h.Ns mainGlobals mg → mg d.name = some (.ref fa) →
      ∃ fd : FuncData, (∀ (s : Shared) (u : Value), BindsTo s fd ⟨[u], []⟩ [("_law_script", u)]) ∧ ∀ base : Heap, (K w.params).In base → base.Ns mainGlobals mg → FnOk l.prog w (K w.params) mg base (L2.CX l.prog w) 14 fa fd ["_law_script"] (spLaw (K w.params))) :
    PySem.W.WalkO q loose XP YP l.row.toRowW d [] (fun f vs => PySem.call f vs) :=
  L2.walk_of (n := 63) (k := 14) (x := "_law_script") (CX := fun w => L2.CX l.prog w) (sp := fun w => spLaw (K w.params)) hn (by decide) hdf ⟨rfl, by decide, by decide⟩ hY F (fun _ H a ns hl hO hS => ⟨a, ns, rfl, only_F hO hS, hl, fun _ => rfl⟩) fun _ _ _ _ _ h => by
    obtain ⟨_, _, _, _, _, _, _, _, _, _, _, _, z⟩ := h
    exact z.elim
end LbW
open PySem PySem.W PyProof.Rows
set_option maxRecDepth 100000 in
set_option maxHeartbeats 0 in
theorem PySem.Challenge.cw_lentbytes_k72_values_and_deeds_of_live_v_holds : PySem.Challenge.rw_lentbytes_k72_values_and_deeds_of_live_v.Holds := by
  w_on; o_law; k_head; (case hw => w_witness2)
  k_fill
  refine LbW.walk (l := PySem.Challenge.rw_lentbytes_k72_values_and_deeds_of_live_v) rfl rfl (fun w h Y => PySem.W.kIn_of Y) ?F
  case F =>
    intro w mg fa h KX G hmg
    refine' LbW.all_mk KX G hmg ?a_BadNumber ?a_BadWindow ?a_BadCast ?a_BadIndex ?a_BadBytes ?a_Held ?a_Gone ?a_Locked ?a_BadValue ?a_Form ?pg_Form ?hd_Form ?po_Form ?sa_Form ?mk_Form ?kc_Form ?na_Form_alpha ?na_Form_beta ?i1_Form ?i2_Form ?i3_Form ?i4_Form ?i5_Form ?a_Track ?pg_Track ?hd_Track ?po_Track ?sa_Track ?mk_Track ?kc_Track ?na_Track_until ?i1_Track ?i2_Track ?i3_Track ?i4_Track ?i5_Track ?a_Window ?pg_Window ?hd_Window ?po_Window ?sa_Window ?mk_Window ?kc_Window ?na_Window_start ?na_Window_step ?na_Window_count ?na_Window_size ?i1_Window ?i2_Window ?i3_Window ?i4_Window ?i5_Window ?a_View ?pg_View ?hd_View ?po_View ?sa_View ?mk_View ?kc_View ?na_View_cells ?na_View_window ?na_View_locked ?na_View_size ?na_View_lent_out ?na_View_closed ?i1_View ?i2_View ?i3_View ?i4_View ?i5_View ?a_Store ?pg_Store ?hd_Store ?po_Store ?sa_Store ?mk_Store ?kc_Store ?na_Store_cells ?na_Store_lent_out ?i1_Store ?i2_Store ?i3_Store ?i4_Store ?i5_Store ?a_Form___init__ ?i_Form___init__ ?l_Form___init__ ?c_Form___init__ ?k_Form___init__ ?a_Form___add__ ?i_Form___add__ ?l_Form___add__ ?c_Form___add__ ?k_Form___add__ ?a_Form___sub__ ?i_Form___sub__ ?l_Form___sub__ ?c_Form___sub__ ?k_Form___sub__ ?a_Form___mul__ ?i_Form___mul__ ?l_Form___mul__ ?c_Form___mul__ ?k_Form___mul__ ?a_number_form ?l_number_form ?c_number_form ?k_number_form ?a_Track___init__ ?i_Track___init__ ?l_Track___init__ ?c_Track___init__ ?k_Track___init__ ?a_Track_narrow ?i_Track_narrow ?l_Track_narrow ?c_Track_narrow ?k_Track_narrow ?a_Track_below ?i_Track_below ?l_Track_below ?c_Track_below ?k_Track_below ?a_Track_divide ?i_Track_divide ?l_Track_divide ?c_Track_divide ?k_Track_divide ?a_is_integer ?l_is_integer ?c_is_integer ?k_is_integer ?a_limited ?l_limited ?c_limited ?k_limited ?a_from_end ?l_from_end ?c_from_end ?k_from_end ?a_chosen_cells ?l_chosen_cells ?c_chosen_cells ?k_chosen_cells ?a_cast_count ?l_cast_count ?c_cast_count ?k_cast_count ?a_Window___init__ ?i_Window___init__ ?l_Window___init__ ?c_Window___init__ ?k_Window___init__ ?a_Window_sliced ?i_Window_sliced ?l_Window_sliced ?dl_Window_sliced ?dv_Window_sliced ?c_Window_sliced ?k_Window_sliced ?a_Window_recast ?i_Window_recast ?l_Window_recast ?c_Window_recast ?k_Window_recast ?a_View___init__ ?i_View___init__ ?l_View___init__ ?c_View___init__ ?k_View___init__ ?a_View_alive ?gp_View_alive ?tp_View_alive ?rp_View_alive ?l_View_alive ?c_View_alive ?k_View_alive ?a_View_check ?i_View_check ?l_View_check ?c_View_check ?k_View_check ?a_View_places_of ?i_View_places_of ?l_View_places_of ?c_View_places_of ?k_View_places_of ?a_View_value_at ?i_View_value_at ?l_View_value_at ?c_View_value_at ?k_View_value_at ?a_View_give ?i_View_give ?l_View_give ?c_View_give ?k_View_give ?a_View_index_of ?i_View_index_of ?l_View_index_of ?c_View_index_of ?k_View_index_of ?a_View_sliced ?i_View_sliced ?l_View_sliced ?kd_View_sliced ?dl_View_sliced ?dv_View_sliced ?c_View_sliced ?k_View_sliced ?a_View_cast ?i_View_cast ?l_View_cast ?c_View_cast ?k_View_cast ?a_View_listed ?i_View_listed ?l_View_listed ?c_View_listed ?k_View_listed ?a_View_during ?i_View_during ?l_View_during ?c_View_during ?k_View_during ?a_View___len__ ?i_View___len__ ?l_View___len__ ?c_View___len__ ?k_View___len__ ?a_View___getitem__ ?i_View___getitem__ ?l_View___getitem__ ?c_View___getitem__ ?k_View___getitem__ ?a_View___setitem__ ?i_View___setitem__ ?l_View___setitem__ ?c_View___setitem__ ?k_View___setitem__ ?a_View___contains__ ?i_View___contains__ ?l_View___contains__ ?c_View___contains__ ?k_View___contains__ ?a_View___eq__ ?i_View___eq__ ?l_View___eq__ ?c_View___eq__ ?k_View___eq__ ?a_Store___init__ ?i_Store___init__ ?l_Store___init__ ?c_Store___init__ ?k_Store___init__ ?a_Store_listed ?i_Store_listed ?l_Store_listed ?c_Store_listed ?k_Store_listed ?a_Store_lent ?i_Store_lent ?l_Store_lent ?c_Store_lent ?k_Store_lent ?a_Store_check_free ?i_Store_check_free ?l_Store_check_free ?c_Store_check_free ?k_Store_check_free ?a_Store_view ?i_Store_view ?l_Store_view ?c_Store_view ?k_Store_view ?a_Store_grow ?i_Store_grow ?l_Store_grow ?c_Store_grow ?k_Store_grow ?a__law_same ?l__law_same ?c__law_same ?k__law_same ?a__law_draw ?l__law_draw ?c__law_draw ?k__law_draw ?a__law_value ?l__law_value ?c__law_value ?k__law_value ?a__law_first ?l__law_first ?c__law_first ?k__law_first ?a__law_raises ?l__law_raises ?c__law_raises ?k__law_raises ?a__law_grows ?l__law_grows ?c__law_grows ?k__law_grows ?a__law_during ?l__law_during ?c__law_during ?k__law_during ?a__law_flag ?l__law_flag ?c__law_flag ?k__law_flag ?a__law_gone ?l__law_gone ?c__law_gone ?k__law_gone ?a__law_deeds ?l__law_deeds ?c__law_deeds ?k__law_deeds ?a_law ?l_law ?c_law ?k_law ?x1_BadNumber ?x2_BadNumber ?x3_BadNumber ?x4_BadNumber ?x5_BadNumber ?x6_BadNumber ?x7_BadNumber ?x8_BadNumber ?x9_BadNumber ?x10_BadNumber ?x11_BadNumber ?x12_BadNumber ?x13_BadNumber ?x14_BadNumber ?x15_BadNumber ?x16_BadNumber ?x17_BadNumber ?x18_BadNumber ?x19_BadNumber ?x20_BadNumber ?x21_BadNumber ?x22_BadNumber ?x23_BadNumber ?x24_BadNumber ?x25_BadNumber ?x26_BadNumber ?x27_BadNumber ?x28_BadNumber ?x29_BadNumber ?x1_BadWindow ?x2_BadWindow ?x3_BadWindow ?x4_BadWindow ?x5_BadWindow ?x6_BadWindow ?x7_BadWindow ?x8_BadWindow ?x9_BadWindow ?x10_BadWindow ?x11_BadWindow ?x12_BadWindow ?x13_BadWindow ?x14_BadWindow ?x15_BadWindow ?x16_BadWindow ?x17_BadWindow ?x18_BadWindow ?x19_BadWindow ?x20_BadWindow ?x21_BadWindow ?x22_BadWindow ?x23_BadWindow ?x24_BadWindow ?x25_BadWindow ?x26_BadWindow ?x27_BadWindow ?x28_BadWindow ?x29_BadWindow ?x1_BadIndex ?x2_BadIndex ?x3_BadIndex ?x4_BadIndex ?x5_BadIndex ?x6_BadIndex ?x7_BadIndex ?x8_BadIndex ?x9_BadIndex ?x10_BadIndex ?x11_BadIndex ?x12_BadIndex ?x13_BadIndex ?x14_BadIndex ?x15_BadIndex ?x16_BadIndex ?x17_BadIndex ?x18_BadIndex ?x19_BadIndex ?x20_BadIndex ?x21_BadIndex ?x22_BadIndex ?x23_BadIndex ?x24_BadIndex ?x25_BadIndex ?x26_BadIndex ?x27_BadIndex ?x28_BadIndex ?x29_BadIndex ?x1_BadBytes ?x2_BadBytes ?x3_BadBytes ?x4_BadBytes ?x5_BadBytes ?x6_BadBytes ?x7_BadBytes ?x8_BadBytes ?x9_BadBytes ?x10_BadBytes ?x11_BadBytes ?x12_BadBytes ?x13_BadBytes ?x14_BadBytes ?x15_BadBytes ?x16_BadBytes ?x17_BadBytes ?x18_BadBytes ?x19_BadBytes ?x20_BadBytes ?x21_BadBytes ?x22_BadBytes ?x23_BadBytes ?x24_BadBytes ?x25_BadBytes ?x26_BadBytes ?x27_BadBytes ?x28_BadBytes ?x29_BadBytes ?x1_BadValue ?x2_BadValue ?x3_BadValue ?x4_BadValue ?x5_BadValue ?x6_BadValue ?x7_BadValue ?x8_BadValue ?x9_BadValue ?x10_BadValue ?x11_BadValue ?x12_BadValue ?x13_BadValue ?x14_BadValue ?x15_BadValue ?x16_BadValue ?x17_BadValue ?x18_BadValue ?x19_BadValue ?x20_BadValue ?x21_BadValue ?x22_BadValue ?x23_BadValue ?x24_BadValue ?x25_BadValue ?x26_BadValue ?x27_BadValue ?x28_BadValue ?x29_BadValue ?y1_BadCast ?y2_BadCast ?y3_BadCast ?y4_BadCast ?y5_BadCast ?y6_BadCast ?y7_BadCast ?y8_BadCast ?y9_BadCast ?y10_BadCast ?y11_BadCast ?y1_Gone ?y2_Gone ?y3_Gone ?y4_Gone ?y5_Gone ?y6_Gone ?y7_Gone ?y8_Gone ?y9_Gone ?y10_Gone ?y11_Gone ?y1_Held ?y2_Held ?y3_Held ?y4_Held ?y5_Held ?y6_Held ?y7_Held ?y8_Held ?y9_Held ?y10_Held ?y11_Held ?y1_Locked ?y2_Locked ?y3_Locked ?y4_Locked ?y5_Locked ?y6_Locked ?y7_Locked ?y8_Locked ?y9_Locked ?y10_Locked ?y11_Locked ?ka_MOST_BYTES ?kr_MOST_BYTES ?ka_TOPS ?kl_TOPS ?kw_TOPS ?em_BadNumber_Gone ?em_BadWindow_Gone ?em_BadCast_Gone ?em_BadIndex_Gone ?em_BadBytes_Gone ?em_Held_Gone ?em_Gone_Gone ?em_Locked_Gone ?em_BadValue_Gone ?em_KeyError_Gone ?em_BadNumber_Held ?em_BadWindow_Held ?em_BadCast_Held ?em_BadIndex_Held ?em_BadBytes_Held ?em_Held_Held ?em_Gone_Held ?em_Locked_Held ?em_BadValue_Held ?em_KeyError_Held ?em_BadNumber_KeyError ?em_BadWindow_KeyError ?em_BadCast_KeyError ?em_BadIndex_KeyError ?em_BadBytes_KeyError ?em_Held_KeyError ?em_Gone_KeyError ?em_Locked_KeyError ?em_BadValue_KeyError ?io_View_NoneType ?io_View_int ?io_View_bool ?io_View_str ?io_View_tuple ?io_View_list ?io_View_dict ?oq_View ?ol_View ?sf_Form ?os_Form ?sf_View ?n_View ?or_Form___mul__ ?oi_Form___mul__ ?oj_Form___mul__ ?fi_View___getitem__ ?ns_View ?z_KeyError ?z_abs ?z_all ?z_bool ?z_enumerate ?z_int ?z_isinstance ?z_len ?z_list ?z_range ?z_reversed ?z_str ?z_tuple
    (case a_BadNumber => first | k_is | rfl | decide +kernel)
    (case a_BadWindow => first | k_is | rfl | decide +kernel)
    (case a_BadCast => first | k_is | rfl | decide +kernel)
    (case a_BadIndex => first | k_is | rfl | decide +kernel)
    (case a_BadBytes => first | k_is | rfl | decide +kernel)
    (case a_Held => first | k_is | rfl | decide +kernel)
    (case a_Gone => first | k_is | rfl | decide +kernel)
    (case a_Locked => first | k_is | rfl | decide +kernel)
    (case a_BadValue => first | k_is | rfl | decide +kernel)
    (case a_Form => first | k_is | rfl | decide +kernel)
    (case pg_Form => first | k_is | rfl | decide +kernel)
    (case hd_Form => first | k_is | rfl | decide +kernel)
    (case po_Form => first | k_is | rfl | decide +kernel)
    (case sa_Form => first | k_is | rfl | decide +kernel)
    (case mk_Form => first | k_is | rfl | decide +kernel)
    (case kc_Form => first | k_is | rfl | decide +kernel)
    (case na_Form_alpha => first | k_is | rfl | decide +kernel)
    (case na_Form_beta => first | k_is | rfl | decide +kernel)
    (case i1_Form => first | k_is | rfl | decide +kernel)
    (case i2_Form => first | k_is | rfl | decide +kernel)
    (case i3_Form => first | k_is | rfl | decide +kernel)
    (case i4_Form => first | k_is | rfl | decide +kernel)
    (case i5_Form => first | k_is | rfl | decide +kernel)
    (case a_Track => first | k_is | rfl | decide +kernel)
    (case pg_Track => first | k_is | rfl | decide +kernel)
    (case hd_Track => first | k_is | rfl | decide +kernel)
    (case po_Track => first | k_is | rfl | decide +kernel)
    (case sa_Track => first | k_is | rfl | decide +kernel)
    (case mk_Track => first | k_is | rfl | decide +kernel)
    (case kc_Track => first | k_is | rfl | decide +kernel)
    (case na_Track_until => first | k_is | rfl | decide +kernel)
    (case i1_Track => first | k_is | rfl | decide +kernel)
    (case i2_Track => first | k_is | rfl | decide +kernel)
    (case i3_Track => first | k_is | rfl | decide +kernel)
    (case i4_Track => first | k_is | rfl | decide +kernel)
    (case i5_Track => first | k_is | rfl | decide +kernel)
    (case a_Window => first | k_is | rfl | decide +kernel)
    (case pg_Window => first | k_is | rfl | decide +kernel)
    (case hd_Window => first | k_is | rfl | decide +kernel)
    (case po_Window => first | k_is | rfl | decide +kernel)
    (case sa_Window => first | k_is | rfl | decide +kernel)
    (case mk_Window => first | k_is | rfl | decide +kernel)
    (case kc_Window => first | k_is | rfl | decide +kernel)
    (case na_Window_start => first | k_is | rfl | decide +kernel)
    (case na_Window_step => first | k_is | rfl | decide +kernel)
    (case na_Window_count => first | k_is | rfl | decide +kernel)
    (case na_Window_size => first | k_is | rfl | decide +kernel)
    (case i1_Window => first | k_is | rfl | decide +kernel)
    (case i2_Window => first | k_is | rfl | decide +kernel)
    (case i3_Window => first | k_is | rfl | decide +kernel)
    (case i4_Window => first | k_is | rfl | decide +kernel)
    (case i5_Window => first | k_is | rfl | decide +kernel)
    (case a_View => first | k_is | rfl | decide +kernel)
    (case pg_View => first | k_is | rfl | decide +kernel)
    (case hd_View => first | k_is | rfl | decide +kernel)
    (case po_View => first | k_is | rfl | decide +kernel)
    (case sa_View => first | k_is | rfl | decide +kernel)
    (case mk_View => first | k_is | rfl | decide +kernel)
    (case kc_View => first | k_is | rfl | decide +kernel)
    (case na_View_cells => first | k_is | rfl | decide +kernel)
    (case na_View_window => first | k_is | rfl | decide +kernel)
    (case na_View_locked => first | k_is | rfl | decide +kernel)
    (case na_View_size => first | k_is | rfl | decide +kernel)
    (case na_View_lent_out => first | k_is | rfl | decide +kernel)
    (case na_View_closed => first | k_is | rfl | decide +kernel)
    (case i1_View => first | k_is | rfl | decide +kernel)
    (case i2_View => first | k_is | rfl | decide +kernel)
    (case i3_View => first | k_is | rfl | decide +kernel)
    (case i4_View => first | k_is | rfl | decide +kernel)
    (case i5_View => first | k_is | rfl | decide +kernel)
    (case a_Store => first | k_is | rfl | decide +kernel)
    (case pg_Store => first | k_is | rfl | decide +kernel)
    (case hd_Store => first | k_is | rfl | decide +kernel)
    (case po_Store => first | k_is | rfl | decide +kernel)
    (case sa_Store => first | k_is | rfl | decide +kernel)
    (case mk_Store => first | k_is | rfl | decide +kernel)
    (case kc_Store => first | k_is | rfl | decide +kernel)
    (case na_Store_cells => first | k_is | rfl | decide +kernel)
    (case na_Store_lent_out => first | k_is | rfl | decide +kernel)
    (case i1_Store => first | k_is | rfl | decide +kernel)
    (case i2_Store => first | k_is | rfl | decide +kernel)
    (case i3_Store => first | k_is | rfl | decide +kernel)
    (case i4_Store => first | k_is | rfl | decide +kernel)
    (case i5_Store => first | k_is | rfl | decide +kernel)
    (case a_Form___init__ => first | k_is | rfl | decide +kernel)
    (case i_Form___init__ => first | k_is | rfl | decide +kernel)
    (case l_Form___init__ => first | k_is | rfl | decide +kernel)
    (case c_Form___init__ => first | k_is | rfl | decide +kernel)
    (case k_Form___init__ => first | k_is | rfl | decide +kernel)
    (case a_Form___add__ => first | k_is | rfl | decide +kernel)
    (case i_Form___add__ => first | k_is | rfl | decide +kernel)
    (case l_Form___add__ => first | k_is | rfl | decide +kernel)
    (case c_Form___add__ => first | k_is | rfl | decide +kernel)
    (case k_Form___add__ => first | k_is | rfl | decide +kernel)
    (case a_Form___sub__ => first | k_is | rfl | decide +kernel)
    (case i_Form___sub__ => first | k_is | rfl | decide +kernel)
    (case l_Form___sub__ => first | k_is | rfl | decide +kernel)
    (case c_Form___sub__ => first | k_is | rfl | decide +kernel)
    (case k_Form___sub__ => first | k_is | rfl | decide +kernel)
    (case a_Form___mul__ => first | k_is | rfl | decide +kernel)
    (case i_Form___mul__ => first | k_is | rfl | decide +kernel)
    (case l_Form___mul__ => first | k_is | rfl | decide +kernel)
    (case c_Form___mul__ => first | k_is | rfl | decide +kernel)
    (case k_Form___mul__ => first | k_is | rfl | decide +kernel)
    (case a_number_form => first | k_is | rfl | decide +kernel)
    (case l_number_form => first | k_is | rfl | decide +kernel)
    (case c_number_form => first | k_is | rfl | decide +kernel)
    (case k_number_form => first | k_is | rfl | decide +kernel)
    (case a_Track___init__ => first | k_is | rfl | decide +kernel)
    (case i_Track___init__ => first | k_is | rfl | decide +kernel)
    (case l_Track___init__ => first | k_is | rfl | decide +kernel)
    (case c_Track___init__ => first | k_is | rfl | decide +kernel)
    (case k_Track___init__ => first | k_is | rfl | decide +kernel)
    (case a_Track_narrow => first | k_is | rfl | decide +kernel)
    (case i_Track_narrow => first | k_is | rfl | decide +kernel)
    (case l_Track_narrow => first | k_is | rfl | decide +kernel)
    (case c_Track_narrow => first | k_is | rfl | decide +kernel)
    (case k_Track_narrow => first | k_is | rfl | decide +kernel)
    (case a_Track_below => first | k_is | rfl | decide +kernel)
    (case i_Track_below => first | k_is | rfl | decide +kernel)
    (case l_Track_below => first | k_is | rfl | decide +kernel)
    (case c_Track_below => first | k_is | rfl | decide +kernel)
    (case k_Track_below => first | k_is | rfl | decide +kernel)
    (case a_Track_divide => first | k_is | rfl | decide +kernel)
    (case i_Track_divide => first | k_is | rfl | decide +kernel)
    (case l_Track_divide => first | k_is | rfl | decide +kernel)
    (case c_Track_divide => first | k_is | rfl | decide +kernel)
    (case k_Track_divide => first | k_is | rfl | decide +kernel)
    (case a_is_integer => first | k_is | rfl | decide +kernel)
    (case l_is_integer => first | k_is | rfl | decide +kernel)
    (case c_is_integer => first | k_is | rfl | decide +kernel)
    (case k_is_integer => first | k_is | rfl | decide +kernel)
    (case a_limited => first | k_is | rfl | decide +kernel)
    (case l_limited => first | k_is | rfl | decide +kernel)
    (case c_limited => first | k_is | rfl | decide +kernel)
    (case k_limited => first | k_is | rfl | decide +kernel)
    (case a_from_end => first | k_is | rfl | decide +kernel)
    (case l_from_end => first | k_is | rfl | decide +kernel)
    (case c_from_end => first | k_is | rfl | decide +kernel)
    (case k_from_end => first | k_is | rfl | decide +kernel)
    (case a_chosen_cells => first | k_is | rfl | decide +kernel)
    (case l_chosen_cells => first | k_is | rfl | decide +kernel)
    (case c_chosen_cells => first | k_is | rfl | decide +kernel)
    (case k_chosen_cells => first | k_is | rfl | decide +kernel)
    (case a_cast_count => first | k_is | rfl | decide +kernel)
    (case l_cast_count => first | k_is | rfl | decide +kernel)
    (case c_cast_count => first | k_is | rfl | decide +kernel)
    (case k_cast_count => first | k_is | rfl | decide +kernel)
    (case a_Window___init__ => first | k_is | rfl | decide +kernel)
    (case i_Window___init__ => first | k_is | rfl | decide +kernel)
    (case l_Window___init__ => first | k_is | rfl | decide +kernel)
    (case c_Window___init__ => first | k_is | rfl | decide +kernel)
    (case k_Window___init__ => first | k_is | rfl | decide +kernel)
    (case a_Window_sliced => first | k_is | rfl | decide +kernel)
    (case i_Window_sliced => first | k_is | rfl | decide +kernel)
    (case l_Window_sliced => first | k_is | rfl | decide +kernel)
    (case dl_Window_sliced => first | k_is | rfl | decide +kernel)
    (case dv_Window_sliced => repeat (first | exact .nil | refine .cons (by first | rfl | exact ⟨_, rfl⟩) ?_))
    (case c_Window_sliced => first | k_is | rfl | decide +kernel)
    (case k_Window_sliced => first | k_is | rfl | decide +kernel)
    (case a_Window_recast => first | k_is | rfl | decide +kernel)
    (case i_Window_recast => first | k_is | rfl | decide +kernel)
    (case l_Window_recast => first | k_is | rfl | decide +kernel)
    (case c_Window_recast => first | k_is | rfl | decide +kernel)
    (case k_Window_recast => first | k_is | rfl | decide +kernel)
    (case a_View___init__ => first | k_is | rfl | decide +kernel)
    (case i_View___init__ => first | k_is | rfl | decide +kernel)
    (case l_View___init__ => first | k_is | rfl | decide +kernel)
    (case c_View___init__ => first | k_is | rfl | decide +kernel)
    (case k_View___init__ => first | k_is | rfl | decide +kernel)
    (case a_View_alive => first | k_is | rfl | decide +kernel)
    (case gp_View_alive => first | k_is | rfl | decide +kernel)
    (case tp_View_alive => first | k_is | rfl | decide +kernel)
    (case rp_View_alive => first | k_is | rfl | decide +kernel)
    (case l_View_alive => first | k_is | rfl | decide +kernel)
    (case c_View_alive => first | k_is | rfl | decide +kernel)
    (case k_View_alive => first | k_is | rfl | decide +kernel)
    (case a_View_check => first | k_is | rfl | decide +kernel)
    (case i_View_check => first | k_is | rfl | decide +kernel)
    (case l_View_check => first | k_is | rfl | decide +kernel)
    (case c_View_check => first | k_is | rfl | decide +kernel)
    (case k_View_check => first | k_is | rfl | decide +kernel)
    (case a_View_places_of => first | k_is | rfl | decide +kernel)
    (case i_View_places_of => first | k_is | rfl | decide +kernel)
    (case l_View_places_of => first | k_is | rfl | decide +kernel)
    (case c_View_places_of => first | k_is | rfl | decide +kernel)
    (case k_View_places_of => first | k_is | rfl | decide +kernel)
    (case a_View_value_at => first | k_is | rfl | decide +kernel)
    (case i_View_value_at => first | k_is | rfl | decide +kernel)
    (case l_View_value_at => first | k_is | rfl | decide +kernel)
    (case c_View_value_at => first | k_is | rfl | decide +kernel)
    (case k_View_value_at => first | k_is | rfl | decide +kernel)
    (case a_View_give => first | k_is | rfl | decide +kernel)
    (case i_View_give => first | k_is | rfl | decide +kernel)
    (case l_View_give => first | k_is | rfl | decide +kernel)
    (case c_View_give => first | k_is | rfl | decide +kernel)
    (case k_View_give => first | k_is | rfl | decide +kernel)
    (case a_View_index_of => first | k_is | rfl | decide +kernel)
    (case i_View_index_of => first | k_is | rfl | decide +kernel)
    (case l_View_index_of => first | k_is | rfl | decide +kernel)
    (case c_View_index_of => first | k_is | rfl | decide +kernel)
    (case k_View_index_of => first | k_is | rfl | decide +kernel)
    (case a_View_sliced => first | k_is | rfl | decide +kernel)
    (case i_View_sliced => first | k_is | rfl | decide +kernel)
    (case l_View_sliced => first | k_is | rfl | decide +kernel)
    (case kd_View_sliced => first | k_is | rfl | decide +kernel)
    (case dl_View_sliced => first | k_is | rfl | decide +kernel)
    (case dv_View_sliced => repeat (first | exact .nil | refine .cons (by first | rfl | exact ⟨_, rfl⟩) ?_))
    (case c_View_sliced => first | k_is | rfl | decide +kernel)
    (case k_View_sliced => first | k_is | rfl | decide +kernel)
    (case a_View_cast => first | k_is | rfl | decide +kernel)
    (case i_View_cast => first | k_is | rfl | decide +kernel)
    (case l_View_cast => first | k_is | rfl | decide +kernel)
    (case c_View_cast => first | k_is | rfl | decide +kernel)
    (case k_View_cast => first | k_is | rfl | decide +kernel)
    (case a_View_listed => first | k_is | rfl | decide +kernel)
    (case i_View_listed => first | k_is | rfl | decide +kernel)
    (case l_View_listed => first | k_is | rfl | decide +kernel)
    (case c_View_listed => first | k_is | rfl | decide +kernel)
    (case k_View_listed => first | k_is | rfl | decide +kernel)
    (case a_View_during => first | k_is | rfl | decide +kernel)
    (case i_View_during => first | k_is | rfl | decide +kernel)
    (case l_View_during => first | k_is | rfl | decide +kernel)
    (case c_View_during => first | k_is | rfl | decide +kernel)
    (case k_View_during => first | k_is | rfl | decide +kernel)
    (case a_View___len__ => first | k_is | rfl | decide +kernel)
    (case i_View___len__ => first | k_is | rfl | decide +kernel)
    (case l_View___len__ => first | k_is | rfl | decide +kernel)
    (case c_View___len__ => first | k_is | rfl | decide +kernel)
    (case k_View___len__ => first | k_is | rfl | decide +kernel)
    (case a_View___getitem__ => first | k_is | rfl | decide +kernel)
    (case i_View___getitem__ => first | k_is | rfl | decide +kernel)
    (case l_View___getitem__ => first | k_is | rfl | decide +kernel)
    (case c_View___getitem__ => first | k_is | rfl | decide +kernel)
    (case k_View___getitem__ => first | k_is | rfl | decide +kernel)
    (case a_View___setitem__ => first | k_is | rfl | decide +kernel)
    (case i_View___setitem__ => first | k_is | rfl | decide +kernel)
    (case l_View___setitem__ => first | k_is | rfl | decide +kernel)
    (case c_View___setitem__ => first | k_is | rfl | decide +kernel)
    (case k_View___setitem__ => first | k_is | rfl | decide +kernel)
    (case a_View___contains__ => first | k_is | rfl | decide +kernel)
    (case i_View___contains__ => first | k_is | rfl | decide +kernel)
    (case l_View___contains__ => first | k_is | rfl | decide +kernel)
    (case c_View___contains__ => first | k_is | rfl | decide +kernel)
    (case k_View___contains__ => first | k_is | rfl | decide +kernel)
    (case a_View___eq__ => first | k_is | rfl | decide +kernel)
    (case i_View___eq__ => first | k_is | rfl | decide +kernel)
    (case l_View___eq__ => first | k_is | rfl | decide +kernel)
    (case c_View___eq__ => first | k_is | rfl | decide +kernel)
    (case k_View___eq__ => first | k_is | rfl | decide +kernel)
    (case a_Store___init__ => first | k_is | rfl | decide +kernel)
    (case i_Store___init__ => first | k_is | rfl | decide +kernel)
    (case l_Store___init__ => first | k_is | rfl | decide +kernel)
    (case c_Store___init__ => first | k_is | rfl | decide +kernel)
    (case k_Store___init__ => first | k_is | rfl | decide +kernel)
    (case a_Store_listed => first | k_is | rfl | decide +kernel)
    (case i_Store_listed => first | k_is | rfl | decide +kernel)
    (case l_Store_listed => first | k_is | rfl | decide +kernel)
    (case c_Store_listed => first | k_is | rfl | decide +kernel)
    (case k_Store_listed => first | k_is | rfl | decide +kernel)
    (case a_Store_lent => first | k_is | rfl | decide +kernel)
    (case i_Store_lent => first | k_is | rfl | decide +kernel)
    (case l_Store_lent => first | k_is | rfl | decide +kernel)
    (case c_Store_lent => first | k_is | rfl | decide +kernel)
    (case k_Store_lent => first | k_is | rfl | decide +kernel)
    (case a_Store_check_free => first | k_is | rfl | decide +kernel)
    (case i_Store_check_free => first | k_is | rfl | decide +kernel)
    (case l_Store_check_free => first | k_is | rfl | decide +kernel)
    (case c_Store_check_free => first | k_is | rfl | decide +kernel)
    (case k_Store_check_free => first | k_is | rfl | decide +kernel)
    (case a_Store_view => first | k_is | rfl | decide +kernel)
    (case i_Store_view => first | k_is | rfl | decide +kernel)
    (case l_Store_view => first | k_is | rfl | decide +kernel)
    (case c_Store_view => first | k_is | rfl | decide +kernel)
    (case k_Store_view => first | k_is | rfl | decide +kernel)
    (case a_Store_grow => first | k_is | rfl | decide +kernel)
    (case i_Store_grow => first | k_is | rfl | decide +kernel)
    (case l_Store_grow => first | k_is | rfl | decide +kernel)
    (case c_Store_grow => first | k_is | rfl | decide +kernel)
    (case k_Store_grow => first | k_is | rfl | decide +kernel)
    (case a__law_same => first | k_is | rfl | decide +kernel)
    (case l__law_same => first | k_is | rfl | decide +kernel)
    (case c__law_same => first | k_is | rfl | decide +kernel)
    (case k__law_same => first | k_is | rfl | decide +kernel)
    (case a__law_draw => first | k_is | rfl | decide +kernel)
    (case l__law_draw => first | k_is | rfl | decide +kernel)
    (case c__law_draw => first | k_is | rfl | decide +kernel)
    (case k__law_draw => first | k_is | rfl | decide +kernel)
    (case a__law_value => first | k_is | rfl | decide +kernel)
    (case l__law_value => first | k_is | rfl | decide +kernel)
    (case c__law_value => first | k_is | rfl | decide +kernel)
    (case k__law_value => first | k_is | rfl | decide +kernel)
    (case a__law_first => first | k_is | rfl | decide +kernel)
    (case l__law_first => first | k_is | rfl | decide +kernel)
    (case c__law_first => first | k_is | rfl | decide +kernel)
    (case k__law_first => first | k_is | rfl | decide +kernel)
    (case a__law_raises => first | k_is | rfl | decide +kernel)
    (case l__law_raises => first | k_is | rfl | decide +kernel)
    (case c__law_raises => first | k_is | rfl | decide +kernel)
    (case k__law_raises => first | k_is | rfl | decide +kernel)
    (case a__law_grows => first | k_is | rfl | decide +kernel)
    (case l__law_grows => first | k_is | rfl | decide +kernel)
    (case c__law_grows => first | k_is | rfl | decide +kernel)
    (case k__law_grows => first | k_is | rfl | decide +kernel)
    (case a__law_during => first | k_is | rfl | decide +kernel)
    (case l__law_during => first | k_is | rfl | decide +kernel)
    (case c__law_during => first | k_is | rfl | decide +kernel)
    (case k__law_during => first | k_is | rfl | decide +kernel)
    (case a__law_flag => first | k_is | rfl | decide +kernel)
    (case l__law_flag => first | k_is | rfl | decide +kernel)
    (case c__law_flag => first | k_is | rfl | decide +kernel)
    (case k__law_flag => first | k_is | rfl | decide +kernel)
    (case a__law_gone => first | k_is | rfl | decide +kernel)
    (case l__law_gone => first | k_is | rfl | decide +kernel)
    (case c__law_gone => first | k_is | rfl | decide +kernel)
    (case k__law_gone => first | k_is | rfl | decide +kernel)
    (case a__law_deeds => first | k_is | rfl | decide +kernel)
    (case l__law_deeds => first | k_is | rfl | decide +kernel)
    (case c__law_deeds => first | k_is | rfl | decide +kernel)
    (case k__law_deeds => first | k_is | rfl | decide +kernel)
    (case a_law => first | k_is | rfl | decide +kernel)
    (case l_law => first | k_is | rfl | decide +kernel)
    (case c_law => first | k_is | rfl | decide +kernel)
    (case k_law => first | k_is | rfl | decide +kernel)
    (case x1_BadNumber => first | k_is | rfl | decide +kernel)
    (case x2_BadNumber => first | k_is | rfl | decide +kernel)
    (case x3_BadNumber => first | k_is | rfl | decide +kernel)
    (case x4_BadNumber => first | k_is | rfl | decide +kernel)
    (case x5_BadNumber => first | k_is | rfl | decide +kernel)
    (case x6_BadNumber => first | k_is | rfl | decide +kernel)
    (case x7_BadNumber => first | k_is | rfl | decide +kernel)
    (case x8_BadNumber => first | k_is | rfl | decide +kernel)
    (case x9_BadNumber => first | k_is | rfl | decide +kernel)
    (case x10_BadNumber => first | k_is | rfl | decide +kernel)
    (case x11_BadNumber => first | k_is | rfl | decide +kernel)
    (case x12_BadNumber => first | k_is | rfl | decide +kernel)
    (case x13_BadNumber => first | k_is | rfl | decide +kernel)
    (case x14_BadNumber => first | k_is | rfl | decide +kernel)
    (case x15_BadNumber => first | k_is | rfl | decide +kernel)
    (case x16_BadNumber => first | k_is | rfl | decide +kernel)
    (case x17_BadNumber => first | k_is | rfl | decide +kernel)
    (case x18_BadNumber => first | k_is | rfl | decide +kernel)
    (case x19_BadNumber => first | k_is | rfl | decide +kernel)
    (case x20_BadNumber => first | k_is | rfl | decide +kernel)
    (case x21_BadNumber => first | k_is | rfl | decide +kernel)
    (case x22_BadNumber => first | k_is | rfl | decide +kernel)
    (case x23_BadNumber => first | k_is | rfl | decide +kernel)
    (case x24_BadNumber => first | k_is | rfl | decide +kernel)
    (case x25_BadNumber => first | k_is | rfl | decide +kernel)
    (case x26_BadNumber => first | k_is | rfl | decide +kernel)
    (case x27_BadNumber => first | k_is | rfl | decide +kernel)
    (case x28_BadNumber => first | k_is | rfl | decide +kernel)
    (case x29_BadNumber => first | k_is | rfl | decide +kernel)
    (case x1_BadWindow => first | k_is | rfl | decide +kernel)
    (case x2_BadWindow => first | k_is | rfl | decide +kernel)
    (case x3_BadWindow => first | k_is | rfl | decide +kernel)
    (case x4_BadWindow => first | k_is | rfl | decide +kernel)
    (case x5_BadWindow => first | k_is | rfl | decide +kernel)
    (case x6_BadWindow => first | k_is | rfl | decide +kernel)
    (case x7_BadWindow => first | k_is | rfl | decide +kernel)
    (case x8_BadWindow => first | k_is | rfl | decide +kernel)
    (case x9_BadWindow => first | k_is | rfl | decide +kernel)
    (case x10_BadWindow => first | k_is | rfl | decide +kernel)
    (case x11_BadWindow => first | k_is | rfl | decide +kernel)
    (case x12_BadWindow => first | k_is | rfl | decide +kernel)
    (case x13_BadWindow => first | k_is | rfl | decide +kernel)
    (case x14_BadWindow => first | k_is | rfl | decide +kernel)
    (case x15_BadWindow => first | k_is | rfl | decide +kernel)
    (case x16_BadWindow => first | k_is | rfl | decide +kernel)
    (case x17_BadWindow => first | k_is | rfl | decide +kernel)
    (case x18_BadWindow => first | k_is | rfl | decide +kernel)
    (case x19_BadWindow => first | k_is | rfl | decide +kernel)
    (case x20_BadWindow => first | k_is | rfl | decide +kernel)
    (case x21_BadWindow => first | k_is | rfl | decide +kernel)
    (case x22_BadWindow => first | k_is | rfl | decide +kernel)
    (case x23_BadWindow => first | k_is | rfl | decide +kernel)
    (case x24_BadWindow => first | k_is | rfl | decide +kernel)
    (case x25_BadWindow => first | k_is | rfl | decide +kernel)
    (case x26_BadWindow => first | k_is | rfl | decide +kernel)
    (case x27_BadWindow => first | k_is | rfl | decide +kernel)
    (case x28_BadWindow => first | k_is | rfl | decide +kernel)
    (case x29_BadWindow => first | k_is | rfl | decide +kernel)
    (case x1_BadIndex => first | k_is | rfl | decide +kernel)
    (case x2_BadIndex => first | k_is | rfl | decide +kernel)
    (case x3_BadIndex => first | k_is | rfl | decide +kernel)
    (case x4_BadIndex => first | k_is | rfl | decide +kernel)
    (case x5_BadIndex => first | k_is | rfl | decide +kernel)
    (case x6_BadIndex => first | k_is | rfl | decide +kernel)
    (case x7_BadIndex => first | k_is | rfl | decide +kernel)
    (case x8_BadIndex => first | k_is | rfl | decide +kernel)
    (case x9_BadIndex => first | k_is | rfl | decide +kernel)
    (case x10_BadIndex => first | k_is | rfl | decide +kernel)
    (case x11_BadIndex => first | k_is | rfl | decide +kernel)
    (case x12_BadIndex => first | k_is | rfl | decide +kernel)
    (case x13_BadIndex => first | k_is | rfl | decide +kernel)
    (case x14_BadIndex => first | k_is | rfl | decide +kernel)
    (case x15_BadIndex => first | k_is | rfl | decide +kernel)
    (case x16_BadIndex => first | k_is | rfl | decide +kernel)
    (case x17_BadIndex => first | k_is | rfl | decide +kernel)
    (case x18_BadIndex => first | k_is | rfl | decide +kernel)
    (case x19_BadIndex => first | k_is | rfl | decide +kernel)
    (case x20_BadIndex => first | k_is | rfl | decide +kernel)
    (case x21_BadIndex => first | k_is | rfl | decide +kernel)
    (case x22_BadIndex => first | k_is | rfl | decide +kernel)
    (case x23_BadIndex => first | k_is | rfl | decide +kernel)
    (case x24_BadIndex => first | k_is | rfl | decide +kernel)
    (case x25_BadIndex => first | k_is | rfl | decide +kernel)
    (case x26_BadIndex => first | k_is | rfl | decide +kernel)
    (case x27_BadIndex => first | k_is | rfl | decide +kernel)
    (case x28_BadIndex => first | k_is | rfl | decide +kernel)
    (case x29_BadIndex => first | k_is | rfl | decide +kernel)
    (case x1_BadBytes => first | k_is | rfl | decide +kernel)
    (case x2_BadBytes => first | k_is | rfl | decide +kernel)
    (case x3_BadBytes => first | k_is | rfl | decide +kernel)
    (case x4_BadBytes => first | k_is | rfl | decide +kernel)
    (case x5_BadBytes => first | k_is | rfl | decide +kernel)
    (case x6_BadBytes => first | k_is | rfl | decide +kernel)
    (case x7_BadBytes => first | k_is | rfl | decide +kernel)
    (case x8_BadBytes => first | k_is | rfl | decide +kernel)
    (case x9_BadBytes => first | k_is | rfl | decide +kernel)
    (case x10_BadBytes => first | k_is | rfl | decide +kernel)
    (case x11_BadBytes => first | k_is | rfl | decide +kernel)
    (case x12_BadBytes => first | k_is | rfl | decide +kernel)
    (case x13_BadBytes => first | k_is | rfl | decide +kernel)
    (case x14_BadBytes => first | k_is | rfl | decide +kernel)
    (case x15_BadBytes => first | k_is | rfl | decide +kernel)
    (case x16_BadBytes => first | k_is | rfl | decide +kernel)
    (case x17_BadBytes => first | k_is | rfl | decide +kernel)
    (case x18_BadBytes => first | k_is | rfl | decide +kernel)
    (case x19_BadBytes => first | k_is | rfl | decide +kernel)
    (case x20_BadBytes => first | k_is | rfl | decide +kernel)
    (case x21_BadBytes => first | k_is | rfl | decide +kernel)
    (case x22_BadBytes => first | k_is | rfl | decide +kernel)
    (case x23_BadBytes => first | k_is | rfl | decide +kernel)
    (case x24_BadBytes => first | k_is | rfl | decide +kernel)
    (case x25_BadBytes => first | k_is | rfl | decide +kernel)
    (case x26_BadBytes => first | k_is | rfl | decide +kernel)
    (case x27_BadBytes => first | k_is | rfl | decide +kernel)
    (case x28_BadBytes => first | k_is | rfl | decide +kernel)
    (case x29_BadBytes => first | k_is | rfl | decide +kernel)
    (case x1_BadValue => first | k_is | rfl | decide +kernel)
    (case x2_BadValue => first | k_is | rfl | decide +kernel)
    (case x3_BadValue => first | k_is | rfl | decide +kernel)
    (case x4_BadValue => first | k_is | rfl | decide +kernel)
    (case x5_BadValue => first | k_is | rfl | decide +kernel)
    (case x6_BadValue => first | k_is | rfl | decide +kernel)
    (case x7_BadValue => first | k_is | rfl | decide +kernel)
    (case x8_BadValue => first | k_is | rfl | decide +kernel)
    (case x9_BadValue => first | k_is | rfl | decide +kernel)
    (case x10_BadValue => first | k_is | rfl | decide +kernel)
    (case x11_BadValue => first | k_is | rfl | decide +kernel)
    (case x12_BadValue => first | k_is | rfl | decide +kernel)
    (case x13_BadValue => first | k_is | rfl | decide +kernel)
    (case x14_BadValue => first | k_is | rfl | decide +kernel)
    (case x15_BadValue => first | k_is | rfl | decide +kernel)
    (case x16_BadValue => first | k_is | rfl | decide +kernel)
    (case x17_BadValue => first | k_is | rfl | decide +kernel)
    (case x18_BadValue => first | k_is | rfl | decide +kernel)
    (case x19_BadValue => first | k_is | rfl | decide +kernel)
    (case x20_BadValue => first | k_is | rfl | decide +kernel)
    (case x21_BadValue => first | k_is | rfl | decide +kernel)
    (case x22_BadValue => first | k_is | rfl | decide +kernel)
    (case x23_BadValue => first | k_is | rfl | decide +kernel)
    (case x24_BadValue => first | k_is | rfl | decide +kernel)
    (case x25_BadValue => first | k_is | rfl | decide +kernel)
    (case x26_BadValue => first | k_is | rfl | decide +kernel)
    (case x27_BadValue => first | k_is | rfl | decide +kernel)
    (case x28_BadValue => first | k_is | rfl | decide +kernel)
    (case x29_BadValue => first | k_is | rfl | decide +kernel)
    (case y1_BadCast => first | k_exc | decide +kernel)
    (case y2_BadCast => first | k_is | rfl | decide +kernel)
    (case y3_BadCast => first | k_is | rfl | decide +kernel)
    (case y4_BadCast => first | k_is | rfl | decide +kernel)
    (case y5_BadCast => first | k_is | rfl | decide +kernel)
    (case y6_BadCast => first | k_is | rfl | decide +kernel)
    (case y7_BadCast => first | k_is | rfl | decide +kernel)
    (case y8_BadCast => first | k_is | rfl | decide +kernel)
    (case y9_BadCast => first | k_is | rfl | decide +kernel)
    (case y10_BadCast => first | k_is | rfl | decide +kernel)
    (case y11_BadCast => first | k_is | rfl | decide +kernel)
    (case y1_Gone => first | k_exc | decide +kernel)
    (case y2_Gone => first | k_is | rfl | decide +kernel)
    (case y3_Gone => first | k_is | rfl | decide +kernel)
    (case y4_Gone => first | k_is | rfl | decide +kernel)
    (case y5_Gone => first | k_is | rfl | decide +kernel)
    (case y6_Gone => first | k_is | rfl | decide +kernel)
    (case y7_Gone => first | k_is | rfl | decide +kernel)
    (case y8_Gone => first | k_is | rfl | decide +kernel)
    (case y9_Gone => first | k_is | rfl | decide +kernel)
    (case y10_Gone => first | k_is | rfl | decide +kernel)
    (case y11_Gone => first | k_is | rfl | decide +kernel)
    (case y1_Held => first | k_exc | decide +kernel)
    (case y2_Held => first | k_is | rfl | decide +kernel)
    (case y3_Held => first | k_is | rfl | decide +kernel)
    (case y4_Held => first | k_is | rfl | decide +kernel)
    (case y5_Held => first | k_is | rfl | decide +kernel)
    (case y6_Held => first | k_is | rfl | decide +kernel)
    (case y7_Held => first | k_is | rfl | decide +kernel)
    (case y8_Held => first | k_is | rfl | decide +kernel)
    (case y9_Held => first | k_is | rfl | decide +kernel)
    (case y10_Held => first | k_is | rfl | decide +kernel)
    (case y11_Held => first | k_is | rfl | decide +kernel)
    (case y1_Locked => first | k_exc | decide +kernel)
    (case y2_Locked => first | k_is | rfl | decide +kernel)
    (case y3_Locked => first | k_is | rfl | decide +kernel)
    (case y4_Locked => first | k_is | rfl | decide +kernel)
    (case y5_Locked => first | k_is | rfl | decide +kernel)
    (case y6_Locked => first | k_is | rfl | decide +kernel)
    (case y7_Locked => first | k_is | rfl | decide +kernel)
    (case y8_Locked => first | k_is | rfl | decide +kernel)
    (case y9_Locked => first | k_is | rfl | decide +kernel)
    (case y10_Locked => first | k_is | rfl | decide +kernel)
    (case y11_Locked => first | k_is | rfl | decide +kernel)
    (case ka_MOST_BYTES => first | k_is | rfl | decide +kernel)
    (case kr_MOST_BYTES => first | rfl | exact ⟨_, rfl⟩)
    (case ka_TOPS => first | k_is | rfl | decide +kernel)
    (case kl_TOPS => first | k_is | rfl | decide +kernel)
    (case kw_TOPS => exact ⟨⟨⟨_, rfl⟩, by first | rfl | decide +kernel, ⟨_, rfl⟩⟩, ⟨⟨_, rfl⟩, by first | rfl | decide +kernel, ⟨_, rfl⟩⟩, ⟨⟨_, rfl⟩, by first | rfl | decide +kernel, ⟨_, rfl⟩⟩, trivial⟩)
    (case em_BadNumber_Gone => first | k_is | rfl | decide +kernel)
    (case em_BadWindow_Gone => first | k_is | rfl | decide +kernel)
    (case em_BadCast_Gone => first | k_is | rfl | decide +kernel)
    (case em_BadIndex_Gone => first | k_is | rfl | decide +kernel)
    (case em_BadBytes_Gone => first | k_is | rfl | decide +kernel)
    (case em_Held_Gone => first | k_is | rfl | decide +kernel)
    (case em_Gone_Gone => first | k_is | rfl | decide +kernel)
    (case em_Locked_Gone => first | k_is | rfl | decide +kernel)
    (case em_BadValue_Gone => first | k_is | rfl | decide +kernel)
    (case em_KeyError_Gone => first | k_is | rfl | decide +kernel)
    (case em_BadNumber_Held => first | k_is | rfl | decide +kernel)
    (case em_BadWindow_Held => first | k_is | rfl | decide +kernel)
    (case em_BadCast_Held => first | k_is | rfl | decide +kernel)
    (case em_BadIndex_Held => first | k_is | rfl | decide +kernel)
    (case em_BadBytes_Held => first | k_is | rfl | decide +kernel)
    (case em_Held_Held => first | k_is | rfl | decide +kernel)
    (case em_Gone_Held => first | k_is | rfl | decide +kernel)
    (case em_Locked_Held => first | k_is | rfl | decide +kernel)
    (case em_BadValue_Held => first | k_is | rfl | decide +kernel)
    (case em_KeyError_Held => first | k_is | rfl | decide +kernel)
    (case em_BadNumber_KeyError => first | k_is | rfl | decide +kernel)
    (case em_BadWindow_KeyError => first | k_is | rfl | decide +kernel)
    (case em_BadCast_KeyError => first | k_is | rfl | decide +kernel)
    (case em_BadIndex_KeyError => first | k_is | rfl | decide +kernel)
    (case em_BadBytes_KeyError => first | k_is | rfl | decide +kernel)
    (case em_Held_KeyError => first | k_is | rfl | decide +kernel)
    (case em_Gone_KeyError => first | k_is | rfl | decide +kernel)
    (case em_Locked_KeyError => first | k_is | rfl | decide +kernel)
    (case em_BadValue_KeyError => first | k_is | rfl | decide +kernel)
    (case io_View_NoneType => first | k_is | rfl | decide +kernel)
    (case io_View_int => first | k_is | rfl | decide +kernel)
    (case io_View_bool => first | k_is | rfl | decide +kernel)
    (case io_View_str => first | k_is | rfl | decide +kernel)
    (case io_View_tuple => first | k_is | rfl | decide +kernel)
    (case io_View_list => first | k_is | rfl | decide +kernel)
    (case io_View_dict => first | k_is | rfl | decide +kernel)
    (case oq_View => first | k_is | rfl | decide +kernel)
    (case ol_View => first | k_is | rfl | decide +kernel)
    (case sf_Form => first | k_is | rfl | decide +kernel)
    (case os_Form => first | k_is | rfl | decide +kernel)
    (case sf_View => first | k_is | rfl | decide +kernel)
    (case n_View => first | k_is | rfl | decide +kernel)
    (case or_Form___mul__ => first | k_is | rfl | decide +kernel)
    (case oi_Form___mul__ => first | k_is | rfl | decide +kernel)
    (case oj_Form___mul__ => first | k_is | rfl | decide +kernel)
    (case fi_View___getitem__ => first | k_is | rfl | decide +kernel)
    (case ns_View => first | k_is | rfl | decide +kernel)
    (case z_KeyError => first | k_is | rfl | decide +kernel)
    (case z_abs => first | k_is | rfl | decide +kernel)
    (case z_all => first | k_is | rfl | decide +kernel)
    (case z_bool => first | k_is | rfl | decide +kernel)
    (case z_enumerate => first | k_is | rfl | decide +kernel)
    (case z_int => first | k_is | rfl | decide +kernel)
    (case z_isinstance => first | k_is | rfl | decide +kernel)
    (case z_len => first | k_is | rfl | decide +kernel)
    (case z_list => first | k_is | rfl | decide +kernel)
    (case z_range => first | k_is | rfl | decide +kernel)
    (case z_reversed => first | k_is | rfl | decide +kernel)
    (case z_str => first | k_is | rfl | decide +kernel)
    (case z_tuple => first | k_is | rfl | decide +kernel)
#print axioms PySem.Challenge.cw_lentbytes_k72_values_and_deeds_of_live_v_holds
