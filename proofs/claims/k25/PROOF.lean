import PyProof.Rows.All
import Wide.All
import OpenK.AllK
import Wide.FinOn
import PyProof.InstNe
import KE.KFromBytes
import KE.KExcSuper
import KE.KOpsOwn
import KE.KIsNot
import KE.KIsAll
import HandS.ForMost
import HandS.Exc
import HandS.Wide
import HandS.Flow
import HandS.Defaults
import HandS.Property
import HandS.ClsMeth
import HandS.Slots
import HandS.SlotsOwn
import HandS.IsInst
import HandS.Evl
import HandS.Head0
import HandS.Head1
import HandS.Head2
import HandS.HeadEnd
import HandS.HeadHook1
import HandS.HeadHook2
import KE.KSuper
import HandS.ExcSuper
import HandS.Nested
import HandS.ExcInit
import HandS.ExcField
import HandS.ExcIs
import HandS.WordsExc
import PySem.Challenge.RW_risingscales_k25_numbers_by_own_sums
set_option Elab.async false
set_option linter.all false
set_option maxRecDepth 100000
set_option maxHeartbeats 4000000
namespace RS
open PySem PySem.Spec PyProof.Rows L2

/-! ### defs, methods, classes by name, all that a call of them wants in one word -/
section
variable (P : Program) (w : World) (K : PySem.W.Frag) (mg : Str → Option Value) (base : Heap) (CX : CXT)
/-- the global def x keeps the promise sp; dvs fill its last parameters -/
structure Cal (lv : Nat) (x : Str) (ps : List Str) (dvs : List V) (sp : Sp) : Prop where
  ex : ∃ (f : Addr) (fd : FuncData) (ds : List Value), FnOk P w K mg base CX lv f fd ps sp ∧ mg x = some (.ref f) ∧ PySem.W.keepIn K (.ref f) = true ∧ Vals dvs ds ∧ Binds K fd ps ds
/-- the method m of the class at C -/
structure Mtd (lv : Nat) (C : Addr) (m : Str) (ps : List Str) (dvs : List V) (sp : Sp) : Prop where
  ex : ∃ (f : Addr) (fd : FuncData) (ds : List Value), FnOk P w K mg base CX lv f fd ps sp ∧ Meth K C m f ∧ Vals dvs ds ∧ Binds K fd ps ds
/-- the class x, at C, made by its __init__ -/
structure Mkr (lv : Nat) (x : Str) (C : Addr) (ps : List Str) (dvs : List V) (sp : Sp) : Prop where
  ex : ∃ (f : Addr) (fd : FuncData) (ds : List Value), FnOk P w K mg base CX lv f fd ps sp ∧ Mk K C f ∧ mg x = some (.ref C) ∧ Vals dvs ds ∧ Binds K fd ps ds
/-- the property m of the class at C -/
structure Prp (lv : Nat) (C : Addr) (m : Str) (ps : List Str) (dvs : List V) (sp : Sp) : Prop where
  ex : ∃ (p f : Addr) (fd : FuncData) (ds : List Value), FnOk P w K mg base CX lv f fd ps sp ∧ PropOf K C m p f ∧ Vals dvs ds ∧ Binds K fd ps ds
/-- the static method m of the class at C -/
structure Stc (lv : Nat) (C : Addr) (m : Str) (ps : List Str) (dvs : List V) (sp : Sp) : Prop where
  ex : ∃ (p f : Addr) (mc : Value) (fd : FuncData) (ds : List Value), FnOk P w K mg base CX lv f fd ps sp ∧ ClX.CRead K C mc ∧
    PySem.W.findCls K (.ref C) mc m = some (.get (.builtin "staticmethod.__get__") (.ref p) .none (.ref C)) ∧ (∃ rest, PySem.W.recIn K p "staticmethod" = some (.ref f :: rest)) ∧
    PySem.W.keepIn K (.ref f) = true ∧ Vals dvs ds ∧ Binds K fd ps ds
end
section
variable {X : Cx} {CX : CXT} {lv : Nat} {x m : Str} {C : Addr} {ps : List Str} {dvs : List V} {sp : Sp} {E : XK} {p pos apos : Pos} {e o : Expr} {es : List Expr} {ta : TE} {t : TA}
theorem pe_fn (F : Cal X.prog X.w X.K X.mg X.base CX lv x ps dvs sp) (hr : Room lv X.A) (hx : Passes CX X E) (ha : PA X (e :: es) t) (hg : Gl X x := by rfl) (hdb : (x == ("__debug__" : Str)) = false := by decide)
    (he : starEach (e :: es) X.env = (false, eval e X.env) :: starEach es X.env := by rfl) (hpl : (backTo pos (starEach es X.env)).any (·.1) = false := by rfl) : PE X (.Call (.Name x p) (e :: es) [] pos) (tCall sp dvs E t) := by
  obtain ⟨f, fd, ds, G, m, k, v, b⟩ := F.ex
  exact pe_call G hr hg m k b v hx ha hdb he hpl
theorem pe_fn0 (F : Cal X.prog X.w X.K X.mg X.base CX lv x ps dvs sp) (hr : Room lv X.A) (hx : Passes CX X E) (hg : Gl X x := by rfl) (hdb : (x == ("__debug__" : Str)) = false := by decide) : PE X (.Call (.Name x p) [] [] pos) (tCall sp dvs E tNil) := by
  obtain ⟨f, fd, ds, G, m, k, v, b⟩ := F.ex
  exact pe_call0 G hr hg m k b v hx hdb
theorem pe_mt {pl : Sem Bool} (c : Cls X.K C) (F : Mtd X.prog X.w X.K X.mg X.base CX lv C m ps dvs sp) (hr : Room lv X.A) (hx : Passes CX X E) (he : PE X o ta) (ha : PA X (e :: es) t)
    (hst : starEach (e :: es) X.env = (false, eval e X.env) :: starEach es X.env := by rfl) (hpl : (backTo pos (starEach es X.env)).any (·.1) = false := by rfl)
    (ht : eval (.Call (.Attribute o m apos) (e :: es) [] pos) X.env = (do
      let ov ← eval o X.env
      standAt apos.atName
      let (f, first) ← holding [ov] (getMethod ov m pl)
      callWith pos f first (backTo pos (starEach (e :: es) X.env)) (backToKw pos (keywordEach [] X.env))) := by rfl) :
    PE X (.Call (.Attribute o m apos) (e :: es) [] pos) (tMeth C m sp dvs E ta t) := by
  obtain ⟨f, fd, ds, G, k, v, b⟩ := F.ex
  exact pe_meth he c k G hr b v hx ha hst hpl ht
theorem pe_mt0 {pl : Sem Bool} (c : Cls X.K C) (F : Mtd X.prog X.w X.K X.mg X.base CX lv C m ps dvs sp) (hr : Room lv X.A) (hx : Passes CX X E) (he : PE X o ta)
    (ht : eval (.Call (.Attribute o m apos) [] [] pos) X.env = (do
      let ov ← eval o X.env
      standAt apos.atName
      let (f, first) ← holding [ov] (getMethod ov m pl)
      callWith pos f first (backTo pos (starEach [] X.env)) (backToKw pos (keywordEach [] X.env))) := by rfl) :
    PE X (.Call (.Attribute o m apos) [] [] pos) (tMeth C m sp dvs E ta tNil) := by
  obtain ⟨f, fd, ds, G, k, v, b⟩ := F.ex
  exact pe_meth0 he c k G hr b v hx ht
theorem pe_mk (F : Mkr X.prog X.w X.K X.mg X.base CX lv x C ps dvs sp) (hr : Room (lv + 1) X.A) (hx : Passes CX X E) (ha : PA X (e :: es) t) (hg : Gl X x := by rfl) (hdb : (x == ("__debug__" : Str)) = false := by decide)
    (he : starEach (e :: es) X.env = (false, eval e X.env) :: starEach es X.env := by rfl) (hpl : (backTo pos (starEach es X.env)).any (·.1) = false := by rfl) : PE X (.Call (.Name x p) (e :: es) [] pos) (tMake C sp dvs E t) := by
  obtain ⟨f, fd, ds, G, k, m, v, b⟩ := F.ex
  exact pe_make k G hr hg m b v hx ha hdb he hpl
theorem pe_pr (c : Cls X.K C) (F : Prp X.prog X.w X.K X.mg X.base CX lv C m ps dvs sp) (hr : Room (lv + 1) X.A) (hx : Passes CX X.nox E) (he : PE X e ta) (hab : attributeBase e m X.env (eval e X.env) = eval e X.env := by rfl) :
    PE X (.Attribute e m pos) (tProp C sp dvs E ta) := by
  obtain ⟨q, f, fd, ds, G, k, v, b⟩ := F.ex
  exact pe_prop he c k G hr b v hx hab
/-- C.m() of a static method -/
theorem pe_st0 {pl : Sem Bool} (F : Stc X.prog X.w X.K X.mg X.base CX lv C m ps dvs sp) (hr : Room lv X.A) (hx : Passes CX X E) (he : PE X o ta)
    (ht : eval (.Call (.Attribute o m apos) [] [] pos) X.env = (do
      let ov ← eval o X.env
      standAt apos.atName
      let (f, first) ← holding [ov] (getMethod ov m pl)
      callWith pos f first (backTo pos (starEach [] X.env)) (backToKw pos (keywordEach [] X.env))) := by rfl) :
    PE X (.Call (.Attribute o m apos) [] [] pos) (fun σ H Q => ta σ H fun z H1 => z = .ref C ∧ sp dvs H1 Q E) := by
  obtain ⟨q, f, mc, fd, ds, G, r, hf, ⟨rest, hrec⟩, kp, v, b⟩ := F.ex
  refine ⟨fun pins s σ H Q I h => ?_⟩
  refine PySem.W.methodCall_KW (pl := pl) (thn (he.run pins s σ H _ I h) fun u s1 ⟨z, H1, I1, rx, ez, q⟩ => ?_) ht
  subst ez
  obtain rfl : u = Value.ref C := rx
  refine PySem.W.method_cls I1.kIn r.ga ?_
  refine PySem.W.cls_bind I1.kIn r.rd hf ?_
  have I2 := I1.tok (s1.toks + 1)
  refine wpAny_call (PySem.W.sm_get (s := { s1 with toks := s1.toks + 1 }) I1.kIn hrec (PySem.W.handed_on rfl ?_))
  exact PySem.W.callWith_K0 (first := []) I2.kIn kp (run_fn (us := []) (vs := []) G hr b v hx I2 .nil (by simpa using q))
end

/-! ### own operators of instances -/
section
variable {X : Cx} {CX : CXT} {lv : Nat} {m : Str} {C : Addr} {ps : List Str} {sp : Sp} {E : XK}
theorem inst_at {pins : List (Addr × Obj)} {σ : L2.St} {H : Hp} {s : Shared} {a C dx : Addr} {fs : List (Str × V)} (I : Inv X pins σ H s) (ea : H a = some (.ins C dx fs)) : ∃ od, PySem.W.InstAt s.heap a (PySem.W.instObj C dx) C (some od) := by
  obtain ⟨mA, O, _, _, _, _⟩ := ins_get I.hok ea
  obtain ⟨od, J, _⟩ := O.look
  exact ⟨od, J⟩
/-- the truth of an instance by its __bool__ (or another def at that name, see hb) -/
def rTruOwn (C : Addr) (sp : Sp) (E : XK) : V → Hp → (Bool → Hp → Prop) → Prop := fun x H Q => ∃ a dx fs, x = .ref a ∧ H a = some (.ins C dx fs) ∧ sp [.ref a] H (fun v H' => ∃ b, v = .bl b ∧ Q b H') E
theorem tru_own (F : Mtd X.prog X.w X.K X.mg X.base CX lv C "__bool__" ps [] sp) (hr : Room lv X.A) (hx : Passes CX X E) : TruR X (rTruOwn C sp E) := by
  intro pins s σ H x v Q I rx h
  obtain ⟨a, dx, fs, rfl, ea, q⟩ := h
  obtain ⟨f, fd, ds, G, k, vd, b⟩ := F.ex
  cases (show v = Value.ref a from rx)
  obtain ⟨od, J⟩ := inst_at I ea
  obtain ⟨mm, hF⟩ := I.fr
  refine PySem.W.truthy_K hF I.ok.mod.kin J k.at_ k.fn ?_
  refine thn (run_fn (us := [.ref a]) (vs := [.ref a]) G hr b vd hx I (.cons rfl .nil) q) fun u s' ⟨z, H', I', rz, bb, ez, qz⟩ => ?_
  subst ez
  cases (show u = Value.bool bb from rz)
  exact ⟨H', I', qz⟩
/-- a name, a call, a field as a test, by its own __bool__ -/
theorem pt_own {a : Expr} {ta : TE} {r : V → Hp → (Bool → Hp → Prop) → Prop} (ht : TruR X r) (ha : PE X a ta) (he : ∀ whole, isTrue a X.env whole = (do let v ← whole; standAt a.pos; holding [v] (truthy v)) := by intro _; rfl) :
    PT X a (fun σ H Q => ta σ H fun x H' => r x H' Q) :=
  ⟨fun pins s σ H Q I h => isTrue_plain (thn (ha.run pins s σ H _ I h) fun v s1 ⟨x, H1, I1, r1, q1⟩ => ht pins s1 σ H1 x v Q I1 r1 q1) (he _)⟩
/-- not a as a value, by a's truth -/
theorem pe_notOwn {a : Expr} {pos : Pos} {ta : TE} {r : V → Hp → (Bool → Hp → Prop) → Prop} (ht : TruR X r) (ha : PE X a ta) : PE X (.UnaryOp .Not a pos) (fun σ H Q => ta σ H fun x H' => r x H' fun b H2 => Q (.bl (!b)) H2) := by
  refine ⟨fun pins s σ H Q I h => ?_⟩
  refine UnaryOp_ (thn (ha.run pins s σ H _ I h) fun v s1 ⟨x, H1, I1, r1, q1⟩ => ?_)
  exact not_of (thn (ht pins s1 σ H1 x v _ I1 r1 q1) fun b s2 ⟨H2, I2, q2⟩ => ⟨.bl (!b), H2, I2, rfl, q2⟩)
/-- x in y, y an instance with its own __contains__ that answers a bool -/
def rInOwn (neg : Bool) (C : Addr) (sp : Sp) (E : XK) : R2 := fun x y H Q => ∃ a dx fs, y = .ref a ∧ H a = some (.ins C dx fs) ∧ sp [.ref a, x] H (fun v H' => ∃ b, v = .bl b ∧ Q (.bl (if neg then !b else b)) H') E
theorem op_inOwn (F : Mtd X.prog X.w X.K X.mg X.base CX lv C "__contains__" ps [] sp) (hr : Room lv X.A) (hx : Passes CX X E) : OpR X (compareOp .In) (rInOwn false C sp E) := by
  intro pins s σ H x y v u Q I rx ry h
  obtain ⟨a, dx, fs, rfl, ea, q⟩ := h
  obtain ⟨f, fd, ds, G, k, vd, b⟩ := F.ex
  cases (show u = Value.ref a from ry)
  obtain ⟨od, J⟩ := inst_at I ea
  obtain ⟨mm, hF⟩ := I.fr
  refine PySem.W.in_K hF I.ok.mod.kin J k.at_ k.fn ?_
  refine thn (run_fn (us := [.ref a, v]) (vs := [.ref a, x]) G hr b vd hx I (.cons rfl (.cons rx .nil)) q) fun u s' ⟨z, H', I', rz, bb, ez, qz⟩ => ?_
  subst ez
  cases (show u = Value.bool bb from rz)
  exact wpAny_truthy_bool ⟨.bl bb, H', I', rfl, qz⟩
theorem op_notInOwn (F : Mtd X.prog X.w X.K X.mg X.base CX lv C "__contains__" ps [] sp) (hr : Room lv X.A) (hx : Passes CX X E) : OpR X (compareOp .NotIn) (rInOwn true C sp E) := by
  intro pins s σ H x y v u Q I rx ry h
  obtain ⟨a, dx, fs, rfl, ea, q⟩ := h
  obtain ⟨f, fd, ds, G, k, vd, b⟩ := F.ex
  cases (show u = Value.ref a from ry)
  obtain ⟨od, J⟩ := inst_at I ea
  obtain ⟨mm, hF⟩ := I.fr
  refine PySem.W.notIn_K hF I.ok.mod.kin J k.at_ k.fn ?_
  refine thn (run_fn (us := [.ref a, v]) (vs := [.ref a, x]) G hr b vd hx I (.cons rfl (.cons rx .nil)) q) fun u s' ⟨z, H', I', rz, bb, ez, qz⟩ => ?_
  subst ez
  cases (show u = Value.bool bb from rz)
  exact wpAny_truthy_bool ⟨.bl (!bb), H', I', rfl, qz⟩
/-- x op y, both instances of the class at C, by C's own def -/
def rBinOwn (C : Addr) (sp : Sp) (E : XK) : R2 := fun x y H Q => ∃ a dx fs b dy gs, x = .ref a ∧ y = .ref b ∧ H a = some (.ins C dx fs) ∧ H b = some (.ins C dy gs) ∧ sp [.ref a, .ref b] H Q E
theorem op_binOwn {op : Operator} (F : Mtd X.prog X.w X.K X.mg X.base CX lv C (PySem.dunder op.info.2) ps [] sp) (hr : Room lv X.A) (hx : Passes CX X E) (hc : PySem.W.selfFirst X.K C = true) : OpR X (binaryOp op) (rBinOwn C sp E) := by
  intro pins s σ H x y v u Q I rx ry h
  obtain ⟨a, dx, fs, b, dy, gs, rfl, rfl, ea, eb, q⟩ := h
  obtain ⟨f, fd, ds, G, k, vd, bb⟩ := F.ex
  cases (show v = Value.ref a from rx)
  cases (show u = Value.ref b from ry)
  obtain ⟨od, J⟩ := inst_at I ea
  obtain ⟨od', J'⟩ := inst_at I eb
  obtain ⟨mm, hF⟩ := I.fr
  refine PySem.W.binop_K hF I.ok.mod.kin J J'.type hc k.at_ k.fn ?_
  exact thn (run_fn (us := [.ref a, .ref b]) (vs := [.ref a, .ref b]) G hr bb vd hx I (.cons rfl (.cons rfl .nil)) q) fun w s' ⟨z, H', I', rz, qz⟩ => SlX.cmpback rz ⟨z, H', I', rz, qz⟩
/-- x == y, x an instance of the class at C with its own __eq__, y anything that is not of a class below C -/
def rEqOwn (K : PySem.W.Frag) (C : Addr) (sp : Sp) (E : XK) : R2 := fun x y H Q => ∃ a dx fs tb, x = .ref a ∧ H a = some (.ins C dx fs) ∧ TyX K H y tb ∧ PySem.W.notFirst K C tb = true ∧ sp [.ref a, y] H Q E
theorem op_eqOwn (F : Mtd X.prog X.w X.K X.mg X.base CX lv C "__eq__" ps [] sp) (hr : Room lv X.A) (hx : Passes CX X E) : OpR X (compareOp .Eq) (rEqOwn X.K C sp E) := by
  intro pins s σ H x y v u Q I rx ry h
  obtain ⟨a, dx, fs, tb, rfl, ea, ty, hn, q⟩ := h
  obtain ⟨f, fd, ds, G, k, vd, bb⟩ := F.ex
  cases (show v = Value.ref a from rx)
  obtain ⟨od, J⟩ := inst_at I ea
  obtain ⟨mm, hF⟩ := I.fr
  obtain ⟨P, Z, p, _⟩ := kit_of I ry ty
  show wpAny _ _ (richCompare .Eq (.ref a) u) _ _ _
  refine PySem.W.cmp_K (op := .Eq) (tb := tb) hr.units0 hF I.ok.mod.kin J (Z.ty _ _ I.kIn p) hn k.at_ k.fn ?_
  exact thn (run_fn (us := [.ref a, u]) (vs := [.ref a, y]) G hr bb vd hx I (.cons rfl (.cons ry .nil)) q) fun w s' ⟨z, H', I', rz, qz⟩ => SlX.cmpback rz ⟨z, H', I', rz, qz⟩
/-- ~x by its own __invert__ -/
def rInvOwn (C : Addr) (sp : Sp) (E : XK) : V → Hp → VK → Prop := fun x H Q => ∃ a dx fs, x = .ref a ∧ H a = some (.ins C dx fs) ∧ sp [.ref a] H Q E
theorem un_invOwn (F : Mtd X.prog X.w X.K X.mg X.base CX lv C "__invert__" ps [] sp) (hr : Room lv X.A) (hx : Passes CX X E) : UnR X (unaryOp .Invert) (rInvOwn C sp E) := by
  intro pins s σ H x v Q I rx h
  obtain ⟨a, dx, fs, rfl, ea, q⟩ := h
  obtain ⟨f, fd, ds, G, k, vd, b⟩ := F.ex
  cases (show v = Value.ref a from rx)
  obtain ⟨od, J⟩ := inst_at I ea
  obtain ⟨mm, hF⟩ := I.fr
  refine PySem.W.ksp_inv hF I.ok.mod.kin J k.at_ k.fn ?_
  exact run_fn (us := [.ref a]) (vs := [.ref a]) G hr b vd hx I (.cons rfl .nil) q
end
end RS

set_option maxRecDepth 100000
set_option maxHeartbeats 4000000
namespace RS
open PySem PySem.Spec PyProof.Rows L2
/-! ### x != y where the class has __eq__ but no __ne__ -/
section
open PySem.W Builtin
variable {prog : Program} {w : World} {A : Around} {E : Value → Shared → Prop} {s : Shared} {K : Frag} {x C f : Addr} {ox : Obj} {od : Option Obj} {b tb : Value}
theorem objNe_K {Q : Fin → Shared → Prop} (hu : A.units < cLine) (X : K.In s.heap) (I : InstAt s.heap x ox C od) (he : findIn K (.ref C) "__eq__" = some (some (.ref f))) (hf : isFn K (.ref f) = true)
    (h : wpAny (model prog w) A (call (.ref f) [.ref x, b]) (fun v s' => ∃ k, v = .bool k ∧ Q (.done (.ret (.bool (!k)))) s') E s) :
    wpAny (model prog w) A (Builtin.«object.__ne__» ⟨[.ref x, b], []⟩) Q E s := by
  unfold Builtin.«object.__ne__»
  repeat (first
    | with_reducible refine wpAny_cRoomFor hu ?_
    | (refine wpAny_bind (m := callSpecialIfBound? (.ref x) (Str.ofString "__eq__") [b])
        (ifBound_K X I he hf (wpAny_mono h (fun r s' hr => by
          obtain ⟨k, rfl, hq⟩ := hr
          repeat (first | exact hq | exact wpAny_pure hq | exact wpAny_truthy_bool hq | (refine wpAny_bind (m := truthy (.bool _)) (wpAny_truthy_bool ?_)) | wp_step)) fun _ _ e => e)))
    | wp_step)
theorem ne_K {Q : Value → Shared → Prop} (hu : A.units + 1 < cLine) (X : K.In s.heap) (I : InstAt s.heap x ox C od) (hb : Looks (model prog w) s.heap (typeOf b) tb) (hn : notFirst K C tb = true)
    (hs : findIn K (.ref C) "__ne__" = some (some (.builtin "object.__ne__"))) (he : findIn K (.ref C) "__eq__" = some (some (.ref f))) (hf : isFn K (.ref f) = true) (hm : mroIn K C (.type "object") = some true)
    (h : wpAny (model prog w) A.in1 (call (.ref f) [.ref x, b]) (fun v s' => ∃ k, v = .bool k ∧ Q (.bool (!k)) s') E s) : wpAny (model prog w) A (richCompare .NotEq (.ref x) b) Q E s := by
  have sub : Looks (model prog w) s.heap (isInstance (.ref x) (.type "object")) true := I.type.andThen (looks_mroIn X hm)
  have one : wpAny (model prog w) A (tryCompare (.ref x) "__ne__" b) (fun r s' => ∃ v, r = some v ∧ Q v s') E s := by
    unfold tryCompare
    refine wpAny_bind (m := callSpecialIfBound? (.ref x) (Str.ofString "__ne__") [b]) ?_
    simp only [callSpecialIfBound?, bindSpecialIfBound?]
    refine wpAny_holding (wpAny_bind (wpAny_bind (wpAny_bind (I.type.here ((looks_findIn X hs).here ?_)))))
    have cal : ∀ (Q' : Option Value → Shared → Prop), (∀ k s', Q (.bool (!k)) s' → Q' (some (.bool (!k))) s') → wpAny (model prog w) A (call (.builtin "object.__ne__") ([.ref x] ++ [b]) >>= fun v => pure (some v)) Q' E s := fun Q' hQ => by
      refine wpAny_bind (wpAny_call (codeAny_call_builtin F.cmp_object.ne.plain F.cmpEntry_ne
        (@check_slot (model prog w) _ _ s "object.__ne__" "object" "__ne__" (.ref x) [b] [] _ F.cmpKind_ne F.cmpSplit_ne sub (F.cmpArgs_ne _ _) (objNe_K (A := A.in1) hu X I he hf (wpAny_mono h (fun v s' hv => ?_) fun _ _ e => e)))))
      obtain ⟨k, rfl, hq⟩ := hv
      exact ⟨k, rfl, wpAny_pure (hQ _ _ hq)⟩
    refine wpAny_bind (wpAny_askSetting (wpAny_ite ?_))
    split
    · exact wpAny_bind (wpAny_of_eq (F.cmp_object.ne.bind _) (wpAny_pure (by exact cal _ fun k s' hq => wpAny_pure ⟨_, rfl, hq⟩)))
    · exact wpAny_tryCatch (wpAny_bind (wpAny_of_eq (F.cmp_object.ne.bind _) (wpAny_pure (by exact cal _ fun k s' hq => wpAny_pure ⟨_, rfl, hq⟩))))
  unfold richCompare
  simp only [oneThing_ref]
  refine wpAny_holding (wpAny_bind (wpAny_cRoomFor (Nat.lt_of_succ_lt hu) ?_))
  refine wpAny_bind (I.type.here (wpAny_bind (hb.here ?_)))
  rw [cmpInfo_NotEq]
  dsimp only
  split
  · rename_i q
    have e : subIn K tb (.ref C) = some false := by
      rcases Bool.or_eq_true_iff.mp hn with e | e
      · rw [beq_iff_eq.mp e] at q; simp at q
      · exact beq_iff_eq.mp e
    refine wpAny_bind ((looks_subIn X e).here ?_)
    simp only [Bool.false_eq_true, if_false]
    refine wpAny_bind (wpAny_mono one (fun r s' z => ?_) fun _ _ e => e)
    obtain ⟨v, rfl, hq⟩ := z
    exact wpAny_pure hq
  · refine wpAny_bind (wpAny_pure ?_)
    simp only [Bool.false_eq_true, if_false]
    refine wpAny_bind (wpAny_mono one (fun r s' z => ?_) fun _ _ e => e)
    obtain ⟨v, rfl, hq⟩ := z
    exact wpAny_pure hq
end
/-- no __ne__ of its own -/
structure NoNe (K : PySem.W.Frag) (C : Addr) : Prop where
  ne : PySem.W.findIn K (.ref C) "__ne__" = some (some (.builtin "object.__ne__"))
  ob : PySem.W.mroIn K C (.type "object") = some true
section
variable {X : Cx} {CX : CXT} {lv : Nat} {m : Str} {C : Addr} {ps : List Str} {sp : Sp} {E : XK}
/-- x != y, x an instance whose class has __eq__ (answering a bool) and no __ne__ -/
def rNeOwn (K : PySem.W.Frag) (C : Addr) (sp : Sp) (E : XK) : R2 := fun x y H Q => ∃ a dx fs tb, x = .ref a ∧ H a = some (.ins C dx fs) ∧ TyX K H y tb ∧ PySem.W.notFirst K C tb = true ∧ sp [.ref a, y] H (fun v H' => ∃ k, v = .bl k ∧ Q (.bl (!k)) H') E
theorem run_in1 {pins : List (Addr × Obj)} {σ : L2.St} {H : Hp} {s : Shared} {Q : VK} {f : Addr} {fd : FuncData} {us : List Value} {vs : List V} (F : FnOk X.prog X.w X.K X.mg X.base CX lv f fd ps sp) (hr : Room (lv + 1) X.A) (hb : Binds X.K fd ps []) (hx : Passes CX X E)
    (I : Inv X pins σ H s) (r : Vals vs us) (h : sp vs H Q E) : wpAny (model X.prog X.w) X.A.in1 (call (.ref f) us) (EP X pins σ Q) X.xe s := by
  have hl : (us ++ []).length = ps.length := by rw [List.append_nil, ← r.length]; exact F.len _ _ _ _ h
  have hb2 := hb s us I.kIn hl
  rw [List.append_nil] at hb2
  refine wpAny_call (codeAny_mono (F.run X.A.in1 X.stack s H ⟨us, []⟩ us vs Q E hr.in1 I.env0.in1 hb2 r h) fun r s' hq => ?_)
  cases r with
  | error e => exact hx pins σ H s e s' I hq
  | ok fl =>
    cases fl with
    | ret u => exact I.after hq
    | next => exact False.elim hq
    | brk => exact False.elim hq
    | cont => exact False.elim hq
theorem op_neOwn (n : NoNe X.K C) (F : Mtd X.prog X.w X.K X.mg X.base CX lv C "__eq__" ps [] sp) (hr : Room (lv + 1) X.A) (hx : Passes CX X E) : OpR X (compareOp .NotEq) (rNeOwn X.K C sp E) := by
  intro pins s σ H x y v u Q I rx ry h
  obtain ⟨a, dx, fs, tb, rfl, ea, ty, hn, q⟩ := h
  obtain ⟨f, fd, ds, G, k, vd, bb⟩ := F.ex
  cases vd
  cases (show v = Value.ref a from rx)
  obtain ⟨od, J⟩ := inst_at I ea
  obtain ⟨P, Z, p, _⟩ := kit_of I ry ty
  show wpAny _ _ (richCompare .NotEq (.ref a) u) _ _ _
  refine ne_K (by have := hr.units; omega) I.kIn J (Z.ty _ _ I.kIn p) hn n.ne k.at_ k.fn n.ob ?_
  refine thn (run_in1 (us := [.ref a, u]) (vs := [.ref a, y]) G hr bb hx I (.cons rfl (.cons ry .nil)) q) fun w s' ⟨z, H', I', rz, kk, ez, qz⟩ => ?_
  subst ez
  exact ⟨kk, rz, .bl (!kk), H', I', rfl, qz⟩
end
/-! ### bool(x) by x's own __bool__ -/
theorem bool_own {prog : Program} {w : World} {A : Around} {E : Value → Shared → Prop} {s : Shared} {x : Addr} {Q : Value → Shared → Prop}
    (ht : wpAny (model prog w) A.in1.in1 (truthy (.ref x)) (fun b s' => Q (.bool b) s') E s) : wpAny (model prog w) A (call (.type "bool") [.ref x]) Q E s := by
  refine callType_codes (T := "bool") (Bi := Builtin.«object.__init__») (Q₁ := fun r s₁ => ∃ k, r = Value.bool k ∧ Q r s₁) PySem.F.called_bool (PySem.F.typeCall_bool_1 _) PySem.F.entry_object_init ?_ ?_
  · refine codeAny_of_tree ?_
    show wpAny _ A.in1.in1 (do checkBuiltinCall "bool.__new__" ⟨[.type "bool", .ref x], []⟩; again (.builtin "bool.__new__" ⟨[.type "bool", .ref x], []⟩)) _ _ s
    refine wpAny_bind (wpAny_of_eq (PySem.F.newCall_bool_1 _) (wpAny_pure ⟨plainId_quiet (by decide +kernel) _, codeAny_builtin PySem.F.entry_bool_new ?_⟩))
    rw [Around.under_plainId (by decide +kernel) _]
    have f1 := PySem.F.conv_sub_bool
    unfold Builtin.«bool.__new__»
    repeat (first | (with_reducible refine wpAny_mono ht (fun b s' hb => ?_) (fun _ _ z => z)) | wp_step)
    exact ⟨b, rfl, hb⟩
  · rintro obj s₁ ⟨k, rfl, hq⟩
    exact ⟨PySem.typeIs_bool _ _, PySem.F.args_object_init_2 _ _, object_init_meets PySem.F.called_bool.init.lookup PySem.F.called_bool.made (by decide) prog w A.in1 _ s₁ ⟨PySem.typeIs_bool _ _, rfl, hq⟩⟩
section
variable {X : Cx} {CX : CXT} {lv : Nat} {m : Str} {C : Addr} {ps : List Str} {sp : Sp} {E : XK}
theorem call_boolOwn (F : Mtd X.prog X.w X.K X.mg X.base CX lv C "__bool__" ps [] sp) (hr : Room (lv + 2) X.A) (hx : Passes CX X E) : CallR X (.type "bool") (fun xs H Q => ∃ x, xs = [x] ∧ rTruOwn C sp E x H fun b H' => Q (.bl b) H') := by
  intro pins s σ H xs us Q I r h
  obtain ⟨x, rfl, a, dx, fs, rfl, ea, q⟩ := h
  obtain ⟨f, fd, ds, G, k, vd, bb⟩ := F.ex
  cases vd
  obtain ⟨u, rfl, ru⟩ := vals1 r
  cases (show u = Value.ref a from ru)
  obtain ⟨od, J⟩ := inst_at I ea
  obtain ⟨mm, hF⟩ := I.fr
  refine bool_own (PySem.W.truthy_K hF I.ok.mod.kin J k.at_ k.fn ?_)
  have hl : (([.ref a] : List Value) ++ []).length = ps.length := (G.len _ _ _ _ q)
  have hb2 := bb s [.ref a] I.kIn hl
  rw [List.append_nil] at hb2
  have hr2 : Room lv X.A.in1.in1 := (show Room (lv + 1) X.A.in1 from Room.in1 hr).in1
  refine wpAny_call (codeAny_mono (G.run X.A.in1.in1 X.stack s H ⟨[.ref a], []⟩ [.ref a] [.ref a] _ E hr2 I.env0.in1.in1 hb2 (.cons rfl .nil) q) fun r s' hq => ?_)
  cases r with
  | error e => exact hx pins σ H s e s' I hq
  | ok fl =>
    cases fl with
    | ret u =>
      obtain ⟨z, H', I', rz, b, ez, qz⟩ := I.after hq
      subst ez
      cases (show u = Value.bool b from rz)
      exact ⟨.bl b, H', I', rfl, qz⟩
    | next => exact False.elim hq
    | brk => exact False.elim hq
    | cont => exact False.elim hq
end
end RS

set_option maxRecDepth 100000
set_option maxHeartbeats 4000000
namespace RS
open PySem PySem.Spec PyProof.Rows L2
/-! ### the second family's source of draws: what its dict holds, and the draw's promise -/
/-- all that was tracked is as it was, but for the object at a -/
def Sav (a : Addr) (H H' : Hp) : Prop := ∀ b o, b ≠ a → H b = some o → H' b = some o
theorem Sav.refl (a : Addr) (H : Hp) : Sav a H H := fun _ _ _ h => h
theorem Sav.trans {a : Addr} {H H1 H2 : Hp} (x : Sav a H H1) (y : Sav a H1 H2) : Sav a H H2 := fun b o n h => y b o n (x b o n h)
theorem Sav.at {a b : Addr} {H H' : Hp} {o : HO} (x : Sav a H H') (n : b ≠ a) (h : H b = some o) : H' b = some o := x b o n h
theorem Sav.new {a p : Addr} {H : Hp} {o : HO} (h : H p = none) : Sav a H (upd H p o) := fun b u _ e => by rw [upd_ne (ne_of_none e h)]; exact e
theorem Sav.own {a : Addr} {H : Hp} {o : HO} : Sav a H (upd H a o) := fun b u n e => by rw [upd_ne n]; exact e
theorem Sav.free {a b : Addr} {H H' : Hp} (x : Sav a H H') (n : b ≠ a) (h : H' b = none) : H b = none := by
  cases q : H b with
  | none => rfl
  | some o => rw [x b o n q] at h; cases h
theorem Same.sav {a : Addr} {H H' : Hp} (x : Same H H') : Sav a H H' := fun b o _ h => x b o h
theorem upd_old {H : Hp} {p q : Addr} {o u : HO} (hp : H p = none) (hq : H q = some o) : upd H p u q = some o := by rw [upd_ne (ne_of_none hq hp)]; exact hq

def penD (c : Addr) (at_ rest : Int) : List (Key × V) := [(.inr "cells", .ref c), (.inr "at", .int at_), (.inr "rest", .int rest)]
theorem ne_ca : ¬ (("cells" : Str) = "at") := by decide +kernel
theorem ne_cr : ¬ (("cells" : Str) = "rest") := by decide +kernel
theorem ne_ar : ¬ (("at" : Str) = "rest") := by decide +kernel
theorem ne_ra : ¬ (("rest" : Str) = "at") := by decide +kernel
theorem pen_cells (c : Addr) (a r : Int) : valV (penD c a r) (Sum.inr "cells") = some (.ref c) := by simp [valV, penD]
theorem pen_at (c : Addr) (a r : Int) : valV (penD c a r) (Sum.inr "at") = some (.int a) := by simp [valV, penD, ne_ca]
theorem pen_rest (c : Addr) (a r : Int) : valV (penD c a r) (Sum.inr "rest") = some (.int r) := by simp [valV, penD, ne_cr, ne_ar]
theorem put_at (c : Addr) (a r z : Int) : putK (penD c a r) (Sum.inr "at") (.int z) = penD c z r := by simp [putK, penD, ne_ca, ne_ra]
theorem put_rest (c : Addr) (a r z : Int) : putK (penD c a r) (Sum.inr "rest") (.int z) = penD c a z := by simp [putK, penD, ne_cr, ne_ar]
section
variable {H : Hp} {p c : Addr} {a r z : Int}
theorem dg_cells (h : H p = some (.dK (penD c a r))) : DGet H p (.str "cells") (some (.ref c)) := by rw [← pen_cells c a r]; exact DGet.k (k := Sum.inr "cells") h
theorem dg_at (h : H p = some (.dK (penD c a r))) : DGet H p (.str "at") (some (.int a)) := by rw [← pen_at c a r]; exact DGet.k (k := Sum.inr "at") h
theorem dg_rest (h : H p = some (.dK (penD c a r))) : DGet H p (.str "rest") (some (.int r)) := by rw [← pen_rest c a r]; exact DGet.k (k := Sum.inr "rest") h
theorem dp_at (h : H p = some (.dK (penD c a r))) : DPut H p (.str "at") (.int z) (upd H p (.dK (penD c z r))) := by
  rw [← put_at c a r z]; exact DPut.k (k := Sum.inr "at") h (by show 3 < sizeLine; rw [sizeLine_eq]; decide)
theorem dp_rest (h : H p = some (.dK (penD c a r))) : DPut H p (.str "rest") (.int z) (upd H p (.dK (penD c a z))) := by
  rw [← put_rest c a r z]; exact DPut.k (k := Sum.inr "rest") h (by show 3 < sizeLine; rw [sizeLine_eq]; decide)
end
/-- a pen stands at p, good for b more draws -/
structure Pen (H : Hp) (p c : Addr) (b : Nat) : Prop where
  ex : ∃ (cs : List Int) (a r : Int), H p = some (.dK (penD c a r)) ∧ H c = some (.lst (cs.map V.int)) ∧ cs.length ≤ 63 ∧ 0 ≤ a ∧ a + b ≤ 2 ^ 60
theorem Pen.mono {H : Hp} {p c : Addr} {b b' : Nat} (x : Pen H p c b) (h : b' ≤ b) : Pen H p c b' := by
  obtain ⟨cs, a, r, h1, h2, h3, h4, h5⟩ := x.ex
  exact ⟨cs, a, r, h1, h2, h3, h4, by omega⟩
theorem Pen.dk {H : Hp} {p c : Addr} {b : Nat} (x : Pen H p c b) : ∃ kvs, H p = some (.dK kvs) := let ⟨_, _, _, h, _⟩ := x.ex; ⟨_, h⟩
/-- what stands at q is not the pen -/
theorem Pen.ne {H : Hp} {p c q : Addr} {b : Nat} {o : HO} (x : Pen H p c b) (h : H q = some o) (d : ∀ kvs, o ≠ .dK kvs) : q ≠ p := by
  obtain ⟨kvs, e⟩ := x.dk
  exact ne_of h e (d kvs)
theorem Pen.fresh_ne {H : Hp} {p c q : Addr} {b : Nat} (x : Pen H p c b) (h : H q = none) : q ≠ p := by
  obtain ⟨kvs, e⟩ := x.dk
  exact (ne_of_none e h).symm
/-- a new object beside it -/
theorem Pen.fresh_ne2 {H : Hp} {p c q : Addr} {b : Nat} (x : Pen H p c b) (h : H q = none) : q ≠ c := by
  obtain ⟨cs, a, r, h1, h2, h3, h4, h5⟩ := x.ex
  exact (ne_of_none h2 h).symm
/-- an object that is neither the pen nor its list is written -/
theorem Pen.mut {H : Hp} {p c q : Addr} {b : Nat} {o : HO} (x : Pen H p c b) (h1 : q ≠ p) (h2 : q ≠ c) : Pen (upd H q o) p c b := by
  obtain ⟨cs, a, r, e1, e2, h3, h4, h5⟩ := x.ex
  exact ⟨cs, a, r, by rw [upd_ne h1.symm]; exact e1, by rw [upd_ne h2.symm]; exact e2, h3, h4, h5⟩
theorem Pen.old {H H' : Hp} {p c : Addr} {b : Nat} (x : Pen H p c b) (k : Same H H') : Pen H' p c b := by
  obtain ⟨cs, a, r, h1, h2, h3, h4, h5⟩ := x.ex
  exact ⟨cs, a, r, k _ _ h1, k _ _ h2, h3, h4, h5⟩
theorem Same.new {H : Hp} {p : Addr} {o : HO} (h : H p = none) : Same H (upd H p o) := fun b u e => by rw [upd_ne (ne_of_none e h)]; exact e
theorem Pen.new {H : Hp} {p c q : Addr} {b : Nat} {o : HO} (x : Pen H p c b) (h : H q = none) : Pen (upd H q o) p c b := x.old (Same.new h)
def spPen (K : PySem.W.Frag) : Sp := fun vs H Q _ => ∃ (a : Addr) (ns : List Int), vs = [.ref a] ∧ SqL K H a (ns.map V.int) ∧ ∀ p c H', Same H H' → H p = none → H c = none → Pen H' p c (2 ^ 59) → Q (.ref p) H'
def spDraw : Sp := fun vs H Q _ => ∃ (p c : Addr) (m : Int) (b : Nat), vs = [.ref p, .int m] ∧ 0 < m ∧ m.natAbs.log2 < 9000 ∧ Pen H p c (b + 1) ∧
  ∀ d H', 0 ≤ d → d < m → Pen H' p c b → Sav p H H' → Q (.int d) H'
theorem dp_ints {K : PySem.W.Frag} {H : Hp} : ∀ cs : List Int, DpAll K H (cs.map V.int) (cs.map PyData.int)
  | [] => .nil
  | c :: cs => .cons (.int c) (dp_ints cs)
theorem shaped_ints (cs : List Int) : SeqAt.shaped (.list (cs.map PyData.int)) = true := PySem.W.shaped_ints cs
theorem eqv_nil (cs : List Int) : (!PyData.eqv (.list (cs.map PyData.int)) (.list [])) = !cs.isEmpty := by cases cs <;> rfl
theorem at_mod {cs : List Int} {a : Int} (h : 0 < cs.length) : ∃ z, atI (cs.map V.int) (a % (((cs.map V.int).length : Nat) : Int)) = some (.int z) := by
  rw [List.length_map]
  have h1 : 0 ≤ a % (cs.length : Int) := Int.emod_nonneg a (by omega)
  have h2 : a % (cs.length : Int) < cs.length := Int.emod_lt_of_pos a (by omega)
  generalize a % (cs.length : Int) = j at *
  obtain ⟨n, rfl⟩ : ∃ n : Nat, j = (n : Int) := ⟨j.toNat, by omega⟩
  have hn : n < cs.length := by omega
  exact ⟨cs[n], atI_nat (by rw [List.getElem?_map, List.getElem?_eq_getElem hn]; rfl)⟩
theorem mul_mod {x y m : Int} (h : 0 < m) (h2 : m < 2 ^ 64) : CMul (x % m) y := .inl ⟨by have := Int.emod_nonneg x (show m ≠ 0 by omega); omega, by have := Int.emod_lt_of_pos x h; omega⟩
theorem Same.mut {H H' : Hp} {p : Addr} {o : HO} (e : Same H H') (h : H p = none) : Same H (upd H' p o) := fun a u ha => by
  rw [upd_ne (ne_of_none ha h)]
  exact e a u ha
theorem cut63 (ns : List Int) : ∃ cs : List Int, cutV (ns.map V.int) none (some 63) = cs.map V.int ∧ cs.length ≤ 63 := by
  refine ⟨ns.take (min 63 ns.length), ?_, by rw [List.length_take]; omega⟩
  show ((ns.map V.int).drop 0).take (HT.sIx (ns.map V.int).length (ns.map V.int).length (some ((63 : Nat) : Int)) - 0) = _
  rw [HT.sIx_nat, List.drop_zero, Nat.sub_zero, List.length_map, List.map_take]
theorem ints_at {cs : List Int} {i : Nat} {x : V} (h : (cs.map V.int)[i]? = some x) : ∃ z, cs[i]? = some z ∧ x = .int z := by
  rw [List.getElem?_map] at h
  cases e : cs[i]? with
  | none => rw [e] at h; cases h
  | some z => rw [e] at h; exact ⟨z, rfl, (Option.some.inj h).symm⟩
theorem take_int {cs : List Int} {i : Nat} {z : Int} (h : cs[i]? = some z) : (cs.take (i + 1)).map V.int = (cs.take i).map V.int ++ [V.int z] := by
  rw [List.take_succ, h, List.map_append]
  rfl
theorem merge_pen (D : Addr) : mergeK [] [(Sum.inr ("cells" : Str), V.ref D), (Sum.inr "at", .int 0), (Sum.inr "rest", .int 0)] = penD D 0 0 := by
  simp [mergeK, putK, penD, ne_ca, ne_cr, ne_ar]
theorem free2 {H : Hp} {p q D : Addr} {o u : HO} (hp : H p = none) (hq : (upd H p o) q = none) (hD : (upd (upd H p o) q u) D = none) : H D = none := by
  have n1 : D ≠ q := fun z => by rw [z, upd_same] at hD; cases hD
  rw [upd_ne n1] at hD
  have n2 : D ≠ p := fun z => by rw [z, upd_same] at hD; cases hD
  rw [upd_ne n2] at hD
  exact hD
theorem mod_in {x m : Int} (h : 0 < m) : 0 ≤ x % m ∧ x % m < m := ⟨Int.emod_nonneg x (by omega), Int.emod_lt_of_pos x h⟩
end RS

set_option maxRecDepth 100000
set_option maxHeartbeats 4000000
namespace RS
open PySem PySem.Spec PyProof.Rows L2 He
/-! ### the head's facts: defs at any path, and any Bool of the fragment -/
abbrev Frg := PySem.W.Frag
/-- a property's getter; a static method's def -/
def prA (K : Frg) (C : Addr) (m : Str) : Addr := match PySem.W.recIn K (ma K C m) "property" with
  | some (.ref g :: _) => g
  | _ => 0
def smA (K : Frg) (C : Addr) (m : Str) : Addr := match PySem.W.recIn K (ma K C m) "staticmethod" with
  | some (.ref g :: _) => g
  | _ => 0
structure DefR where
  adr : Frg → Addr
  name : Str
  qual : Str
  params : Arguments
  body : List Stmt
  scope : Scope
  dfl : List Dv := []
  clo : List Str := []
abbrev FnZ : Type := Option (Str × Str × Arguments × FuncBody × Scope × Addr × List Str × Addr)
def fnA (K : Frg) (a : Addr) : FnZ := match K.lookup a with
  | some ⟨_, _, .func fd, _⟩ => some (fd.name, fd.qualname, fd.params, fd.body, fd.scope, fd.globals, fd.closure.map (·.1), fd.builtins)
  | _ => none
def DefR.val (d : DefR) : FnZ := some (d.name, d.qual, d.params, .stmts d.body, d.scope, mainGlobals, d.clo, builtinsNs)
def DefR.dvs (K : Frg) (d : DefR) : List V := d.dfl.map (Dv.v K)
def DefR.ok (K : Frg) (d : DefR) : Bool := PySem.W.keepIn K (.ref (d.adr K)) && (match K.lookup (d.adr K) with
  | some ⟨_, _, .func fd, _⟩ => PySem.W.codeIn K fd.code d.qual && dflB K fd.defaults (d.dvs K)
  | _ => false)
theorem DefR.funD {K : Frg} {d : DefR} (e : fnA K (d.adr K) = d.val) (c : d.ok K = true) (hclo : d.clo = []) : ∃ fd, FunD K d.name d.qual d.params d.body d.scope (d.dvs K) [] (d.adr K) fd := by
  obtain ⟨kp, c2⟩ := ba c
  unfold fnA at e
  cases q : K.lookup (d.adr K) with
  | none =>
    rw [q] at c2
    cases c2
  | some o =>
    obtain ⟨oc, od, dt, osl⟩ := o
    rw [q] at c2 e
    cases dt with
    | func fd =>
      obtain ⟨n1, n2, n3, n4, n5, n6, n7, n8, n9, n10, n11, n12, n13, n14, n15⟩ := fd
      have e2 : (some (n1, n2, n3, n4, n5, n6, n7.map (·.1), n15) : FnZ) = some (d.name, d.qual, d.params, .stmts d.body, d.scope, mainGlobals, d.clo, builtinsNs) := e
      rw [hclo] at e2
      simp only [Option.some.injEq, Prod.mk.injEq, List.map_eq_nil_iff] at e2
      obtain ⟨h1, h2, h3, h4, h5, h6, h7, h8⟩ := e2
      subst h1 h2 h3 h4 h5 h6 h7 h8
      have c3 : (PySem.W.codeIn K n13 d.qual && dflB K n8 (d.dvs K)) = true := c2
      obtain ⟨k1, k2⟩ := ba c3
      exact ⟨_, ⟨oc, od, n8, n9, n10, n11, n12, n13, n14, osl, rfl, q, k1, dflB_ok k2, .inl rfl⟩, kp⟩
    | _ => cases c2
def asR (g : Addr → Option Obj) : Nat → List Addr
  | 0 => [mainGlobals, cStatics]
  | n + 1 => growD g (asR g n)
abbrev AlR : Type := Bool × List FnZ
def obsR (ex : Frg → Bool) (fn : List DefR) (K : Frg) : AlR := (ex K && fn.all fun d => d.ok K, fn.map fun d => fnA K (d.adr K))
def valR (fn : List DefR) : AlR := (true, fn.map DefR.val)
def SaysR (ex : Frg → Bool) (fn : List DefR) (K : Frg) : Prop := obsR ex fn K = valR fn
def obsRG (n : Nat) (ex : Frg → Bool) (fn : List DefR) (g : Addr → Option Obj) : AlR := obsR ex fn (frG g (asR g n))
def hookR (n : Nat) (ex : Frg → Bool) (fn : List DefR) : PySem.W.Hook where
  α := AlR
  obs := fun s => obsRG n ex fn s.heap.get?
  val := fun _ => valR fn
  says := fun _ h => ∃ K : Frg, K.In h ∧ SaysR ex fn K
  of := fun _ _ e => ⟨_, frG_in, e⟩
  keeps := fun _ _ _ ⟨K, hK, c⟩ k => ⟨K, PySem.W.Frag.In.keeps hK k, c⟩
theorem obsRG_eq {n : Nat} {ex : Frg → Bool} {fn : List DefR} {g : Addr → Option Obj} {s : Shared} (h : ∀ a, g a = s.heap.get? a) : obsRG n ex fn g = (hookR n ex fn).obs s := by
  have e : g = s.heap.get? := funext h
  rw [e] <;> rfl
section
variable {ex : Frg → Bool} {fn : List DefR} {K : Frg}
theorem SaysR.more (c : SaysR ex fn K) : ex K = true := (ba (show (ex K && fn.all fun d => d.ok K) = true from congrArg (fun z : AlR => z.1) c)).1
theorem SaysR.def_ (c : SaysR ex fn K) (i : Nat) {d : DefR} (h : fn[i]? = some d := by rfl) (hclo : d.clo = [] := by rfl) : ∃ fd, FunD K d.name d.qual d.params d.body d.scope (d.dvs K) [] (d.adr K) fd := by
  have c2 := (ba (show (ex K && fn.all fun d => d.ok K) = true from congrArg (fun z : AlR => z.1) c)).2
  have e : fn.map (fun d => fnA K (d.adr K)) = fn.map DefR.val := congrArg (fun z : AlR => z.2) c
  have e2 : (fn.map fun d => fnA K (d.adr K))[i]? = (fn.map DefR.val)[i]? := by rw [e]
  rw [List.getElem?_map, List.getElem?_map, h] at e2
  exact DefR.funD (Option.some.inj e2) (List.all_eq_true.mp c2 d (List.mem_of_getElem? h)) hclo
theorem SaysR.val_ (c : SaysR ex fn K) (i : Nat) {d : DefR} (h : fn[i]? = some d := by rfl) : fnA K (d.adr K) = d.val := by
  have e : fn.map (fun d => fnA K (d.adr K)) = fn.map DefR.val := congrArg (fun z : AlR => z.2) c
  have e2 : (fn.map fun d => fnA K (d.adr K))[i]? = (fn.map DefR.val)[i]? := by rw [e]
  rw [List.getElem?_map, List.getElem?_map, h] at e2
  exact Option.some.inj e2
end
/-! ### facts as Bools -/
def freeB (K : Frg) (x : Str) : Bool := (Fa.free x).ok K
def gloB (K : Frg) (x : Str) : Bool := (Fa.glo x).ok K
def clsB (K : Frg) (x : Str) : Bool := (Fa.cls x).ok K
def noatB (K : Frg) (x f : Str) : Bool := (Fa.noat x f).ok K
def methB (K : Frg) (x f : Str) : Bool := (Fa.meth x f).ok K
def mkrB (K : Frg) (x : Str) : Bool := (Fa.mkr x).ok K
def prpB (K : Frg) (x m : Str) : Bool := eqO (PySem.W.findIn K (.ref (ga K x)) m) (some (some (.ref (ma K (ga K x) m)))) &&
  (eqO (PySem.W.specialIn K (.ref (ma K (ga K x) m)) "__get__") (some (some (.builtin "property.__get__"))) && (decide (PySem.W.takesIn K (.ref (ma K (ga K x) m)) = some true) &&
  (match PySem.W.recIn K (ma K (ga K x) m) "property" with
  | some (.ref g :: _) => decide (g = prA K (ga K x) m)
  | _ => false)))
theorem prpB_ok {K : Frg} {x m : Str} (h : prpB K x m = true) : PropOf K (ga K x) m (ma K (ga K x) m) (prA K (ga K x) m) := by
  obtain ⟨h1, h⟩ := ba h
  obtain ⟨h2, h⟩ := ba h
  obtain ⟨h3, h4⟩ := ba h
  refine ⟨eqO_ok h1, eqO_ok h2, of_decide_eq_true h3, ?_⟩
  split at h4
  · rename_i g rest e
    exact ⟨rest, by rw [e, of_decide_eq_true h4]⟩
  · cases h4
/-- attributes of the class x are read in the plain way -/
def crdB (K : Frg) (x : Str) : Bool := PySem.W.readsIn K (ga K x) (.type "type") && eqO (PySem.W.specialIn K (.ref (ga K x)) "__getattribute__") (some (some (.builtin "type.__getattribute__")))
theorem crdB_ok {K : Frg} {x : Str} (h : crdB K x = true) : ClX.CRead K (ga K x) (.type "type") := by
  obtain ⟨h1, h2⟩ := ba h
  exact ⟨h1, eqO_ok h2⟩
def stcB (K : Frg) (x m : Str) : Bool := (match PySem.W.findCls K (.ref (ga K x)) (.type "type") m with
  | some (.get (.builtin i) (.ref p) .none (.ref C)) => decide (i = "staticmethod.__get__") && (decide (p = ma K (ga K x) m) && decide (C = ga K x))
  | _ => false) && (match PySem.W.recIn K (ma K (ga K x) m) "staticmethod" with
  | some (.ref g :: _) => decide (g = smA K (ga K x) m)
  | _ => false)
theorem stcB_ok {K : Frg} {x m : Str} (h : stcB K x m = true) : PySem.W.findCls K (.ref (ga K x)) (.type "type") m = some (.get (.builtin "staticmethod.__get__") (.ref (ma K (ga K x) m)) .none (.ref (ga K x))) ∧
    ∃ rest, PySem.W.recIn K (ma K (ga K x) m) "staticmethod" = some (.ref (smA K (ga K x) m) :: rest) := by
  obtain ⟨h1, h2⟩ := ba h
  constructor
  · split at h1
    · rename_i i p C e
      obtain ⟨a, b⟩ := ba h1
      obtain ⟨b, c⟩ := ba b
      rw [e, of_decide_eq_true a, of_decide_eq_true b, of_decide_eq_true c]
    · cases h1
  · split at h2
    · rename_i g rest e
      exact ⟨rest, by rw [e, of_decide_eq_true h2]⟩
    · cases h2
/-- what isinstance asks of an instance of the class x -/
structure IsiC (K : Frg) (C : Addr) : Prop where
  cl : Cls K C
  ca : PySem.W.findIn K (.ref C) "__class__" = some (some (.builtin "object.__class__"))
  cn : PySem.W.specialIn K (.builtin "object.__class__") "__get__" = some (some (.builtin "getset_descriptor.__get__"))
  ct : PySem.W.takesIn K (.builtin "object.__class__") = some true
  cm : PySem.W.mroIn K C (.type "object") = some true
def isiB (K : Frg) (x : Str) : Bool := clsB K x && (eqO (PySem.W.findIn K (.ref (ga K x)) "__class__") (some (some (.builtin "object.__class__"))) &&
  (eqO (PySem.W.specialIn K (.builtin "object.__class__") "__get__") (some (some (.builtin "getset_descriptor.__get__"))) && (decide (PySem.W.takesIn K (.builtin "object.__class__") = some true) && decide (PySem.W.mroIn K (ga K x) (.type "object") = some true))))
theorem isiB_ok {K : Frg} {x : Str} (h : isiB K x = true) : IsiC K (ga K x) := by
  obtain ⟨h0, h⟩ := ba h
  obtain ⟨h1, h⟩ := ba h
  obtain ⟨h2, h⟩ := ba h
  obtain ⟨h3, h4⟩ := ba h
  exact ⟨cls_ok h0, eqO_ok h1, eqO_ok h2, of_decide_eq_true h3, of_decide_eq_true h4⟩
theorem IsiC.ty {K : Frg} {C : Addr} (c : IsiC K C) {H : Hp} {a dx : Addr} {fs : List (Str × V)} (e : H a = some (.ins C dx fs)) : TyX K H (.ref a) (.ref C) := .base (.ins e c.cl c.ca c.cn c.ct c.cm)
def neB (K : Frg) (x : Str) : Bool := eqO (PySem.W.findIn K (.ref (ga K x)) "__ne__") (some (some (.builtin "object.__ne__"))) && decide (PySem.W.mroIn K (ga K x) (.type "object") = some true)
theorem neB_ok {K : Frg} {x : Str} (h : neB K x = true) : NoNe K (ga K x) := by
  obtain ⟨h1, h2⟩ := ba h
  exact ⟨eqO_ok h1, of_decide_eq_true h2⟩
def kitB1 (K : Frg) (t c : Value) (b : Bool) : Bool := decide (PySem.W.kitOne K t c = some b)
end RS

set_option maxRecDepth 100000
set_option maxHeartbeats 4000000
/-! ### own exceptions whose __init__ calls the base's by super() -/
namespace PySem.RSX
open PySem PySem.W PySem.F PySem.Calls PyProof.Rows PySem.ESX
section
variable {prog : Program} {w : World} {A : Around} {E : Value → Shared → Prop} {h : Heap} {g : Array GenState} {d : Drawn} {t : Nat} {os : OsState}
variable {nm q : Str} {C N : Addr} {bs bm : List Value} {hdct : Bool} {sn : List Str} {sub : List Value} {ab : Bool} {col : Option Bool} {dd : Option Addr} {k0 k1 k2 k3 k5 : Option Value}
theorem call_mw {u e t0 : Addr} {rest : List Value} {Q : Value → Shared → Prop}
    (hC : h.get? C = some (excClassObj nm q C N bs bm hdct sn sub ab col dd k0 k1 k2 k3 k5 "ValueError.__new__")) (he : h.get? e = some (HandSPX.excO C t0)) (hu : h.get? u = some (kxs_mw "ValueError.__init__" e)) (hrest : rest.length ≤ sizeLine)
    (hq : ∀ h' t1, (∀ b o, b ≠ e → h.get? b = some o → h'.get? b = some o) → h'.get? e = some (HandSPX.excO C t1) → Q .none ⟨h', g, d, t, os⟩) :
    wpAny (model prog w) A (call (.ref u) rest) Q E ⟨h, g, d, t, os⟩ := by
  refine wpAny_call (codeAny_of_tree ?_)
  show wpAny _ A.in1 (callAny (.ref u) ⟨rest, []⟩) _ _ _
  simp only [callAny]
  refine wpAny_bind (wpAny_load hu ?_)
  simp only [kxs_mw, show (Value.type "method-wrapper" == Value.type "method" || Value.type "method-wrapper" == Value.type "builtin_function_or_method" || Value.type "method-wrapper" == Value.type "method-wrapper") = true by decide, if_true]
  refine W.KFB.if_so (by decide) ?_
  refine wpAny_bind (check_bound F.excBase_ValueError hC he rfl ?_)
  refine wpAny_bind (wpAny_pure (wpAny_pure ?_))
  refine ⟨Code.quiet_builtin _ (by decide +kernel), codeAny_builtin F.excBase_ValueError.initEntry ?_⟩
  rw [Around.under_plainId F.excBase_ValueError.init.plain _]
  wp_walk
  refine hq _ h.objs.size (fun b o hb ho => ?_) ?_
  · rw [Heap.get?_update_other _ _ (Ne.symm hb)]
    exact Heap.get?_push_of_some _ ho
  · rw [Heap.get?_update_self _ (Heap.get?_push_of_some _ he) rfl]
    rfl
end
end PySem.RSX
namespace RS
open PySem PySem.Spec PyProof.Rows L2 NdefX
/-- the class at C: an own exception (its __init__ says super().__init__(..)) -/
structure SupC (K : Frg) (C : Addr) : Prop where
  ox : OexC K C
  sup : PySem.W.ks_superIn K C C "__init__" = some (some (.builtin "ValueError.__init__"))
  op : PySem.W.nsIn K cStatics "thirdparty.any" = some none
  ve : PySem.W.mroIn K C (.type "ValueError") = some true
  me : PySem.W.mroIn K C (.ref C) = some true
/-- the def at f: closed over the cell of its class C -/
structure FunX (K : Frg) (P : Program) (name qual : Str) (params : Arguments) (body : List Stmt) (scope : Scope) (C : Addr) (f : Addr) (fd : FuncData) : Prop where
  ex : ∃ (oc : Value) (od : Option Addr) (doc pm ct : Value) (an : Option Addr) (cda cc : Addr) (osl : Array (Option Value)),
    fd = PySem.W.fnX name qual params body scope [("__class__", cc)] .none .none doc pm an (.ref cda) ct ∧ K.lookup f = some ⟨oc, od, .func fd, osl⟩ ∧ PySem.W.codeIn K (.ref cda) qual = true ∧
    (∃ ccl cdd vs ccs file tf, K.lookup cda = some ⟨ccl, cdd, .fields vs, ccs⟩ ∧ vs[2]? = some (.str file tf) ∧ (P.main.file == file) = true) ∧ ∃ cl cld csl, K.lookup cc = some ⟨cl, cld, .cell (some (.ref C)), csl⟩
  kp : PySem.W.keepIn K (.ref f) = true
abbrev supCall (p0 p1 ap cp pc : Pos) (j : Nat) (msg : Str) : Expr := .Call (.Attribute (.Call (.Name "super" p0) [] [] p1) "__init__" ap) [.Constant (.str msg) j pc] [] cp
section
variable {P : Program} {w : World} {K : Frg} {mg : Str → Option Value} {base : Heap} {CX : CXT} {k : Nat} {x qual s0 msg : Str} {params : Arguments} {rest : List Stmt} {scope : Scope} {C f : Addr} {fd : FuncData} {N ps : List Str} {sp : Sp} {p0 p1 ap cp pc sp0 : Pos} {j : Nat} {ar : Arg}
theorem fnx_of (F : FunX K P x qual params (.Expr (supCall p0 p1 ap cp pc j msg) sp0 :: rest) scope C f fd) (S : NScope N (s0 :: ps) ["__class__"] scope) (T : SupC K C)
    (hp : (params.posonlyargs ++ params.args).head? = some ar) (har : ar.arg = s0) (hs : scope.names.lookup ("super" : Str) = some .globalImplicit) (hmg : mg "super" = none) (htop : (P.main.scope.names.lookup ("super" : Str)).isSome = false)
    (hev : ∀ L cda cc : Addr, ∃ pl : Sem Bool, eval (supCall p0 p1 ap cp pc j msg) (PySem.W.envX qual scope L f (.ref cda) [("__class__", cc)]) = (do
      let ov ← attributeBase (.Call (.Name "super" p0) [] [] p1) "__init__" (PySem.W.envX qual scope L f (.ref cda) [("__class__", cc)]) (eval (.Call (.Name "super" p0) [] [] p1) (PySem.W.envX qual scope L f (.ref cda) [("__class__", cc)]))
      standAt ap.atName
      let (g, first) ← holding [ov] (getMethod ov "__init__" pl)
      callWith cp g first (backTo cp (starEach [.Constant (.str msg) j pc] (PySem.W.envX qual scope L f (.ref cda) [("__class__", cc)]))) []))
    (hsw : ∀ L cda cc : Addr, swapsWith (supCall p0 p1 ap cp pc j msg) none sp0.line (PySem.W.envX qual scope L f (.ref cda) [("__class__", cc)]) = pure false)
    (len : ∀ vs H Q E, sp vs H Q E → vs.length = (s0 :: ps).length)
    (hbody : ∀ (cda cc : Addr) (A : Around) (outer : List Env) (s : Shared) (H : Hp) (vs : List V) (Q : VK) (E : XK), Room k (A.deeper (envF ⟨x, qual, params, [], scope, [("__class__", cc)], cda⟩ f s.heap.objs.size)) → sp vs H Q E →
      ∃ (a : Addr) (ws : List V) (t : TS), vs = .ref a :: ws ∧ H a = some (exo a C none) ∧ PSs (ncx CX P w K mg base N ⟨x, qual, params, [], scope, [("__class__", cc)], cda⟩ f A outer s H E) rest t ∧
        t { nx := fun _ H' => Q .non H', rt := Q } (startF N vs [some (.ref C)]) H) :
    FnOk P w K mg base CX (k + 1) f fd (s0 :: ps) sp := by
  obtain ⟨oc, od, doc, pm, ct, an, cda, cc, osl, rfl, lk, hcd, ⟨ccl, cdd, vs0, ccs, file, tf, hcode, hvs, hfile⟩, ⟨cl, cld, csl, hcell⟩⟩ := F.ex
  refine ⟨len, fun A outer s H args us vs Q E hr e0 hb r hsp => ?_⟩
  have hl := len _ _ _ _ hsp
  have KX : K.In s.heap := e0.mod.kin.keeps fun b o e => (e0.bs b o e).1
  have lim : s.heap.NoLimit := e0.mod.nolimit.keeps fun b o e => (e0.bs b o e).1
  refine ks_codeAny_call_defAt (body := (.Expr (supCall p0 p1 ap cp pc j msg) sp0 :: rest)) (binds := (s0 :: ps).zip us) hr.depth (KX _ _ lk) rfl lim (PySem.W.codeRec_of KX hcd) rfl hb S.nocell (fun y hy => S.par y.1 (List.of_mem_zip hy).1) (fun h₁ hns kp => ?_) S.co S.gen S.kind
  have CA : CellsAt [("__class__", cc)] ["__class__"] [some (.ref C)] s.heap H := by
    have e1 : s.heap.IsCell cc (some (.ref C)) := ⟨_, KX _ _ hcell, rfl⟩
    have e2 : H cc = none := (e0.bs cc _ (e0.mod.kin _ _ hcell)).2
    have lk1 : ∀ {y : Str} {c : Addr}, List.lookup y [(("__class__" : Str), cc)] = some c → y = "__class__" ∧ c = cc := fun {y c} z => by
      have z2 := PySem.mem_of_lookup z
      simp at z2
      exact z2
    refine ⟨rfl, fun y c z => ?_, fun y z c h1 h2 => ?_, fun i y h => ?_⟩
    · obtain ⟨_, rfl⟩ := lk1 z
      exact ⟨e2, _, e1⟩
    · rw [(lk1 h1).1, (lk1 h2).1]
    · have hi : i < 1 := (List.getElem?_eq_some_iff.mp h).1
      obtain rfl : i = 0 := by omega
      obtain rfl := Option.some.inj h
      refine ⟨cc, by simp [List.lookup], fun v hv => ?_⟩
      obtain rfl := Option.some.inj (Option.some.inj hv)
      exact ⟨_, rfl, e1⟩
  obtain ⟨a, ws, tt, rfl, ha, ht, hq⟩ := hbody cda cc A outer s H vs Q E (hr.deeper _) hsp
  have I : Inv (ncx CX P w K mg base N ⟨x, qual, params, [], scope, [("__class__", cc)], cda⟩ f A outer s H E) [] (startF N (.ref a :: ws) [some (.ref C)]) H { s with heap := h₁, toks := s.toks + ((s0 :: ps).zip us).length } := inv_startN S hr.hd e0 hl r CA hns kp
  obtain ⟨us0, rfl⟩ : ∃ us0, us = .ref a :: us0 := by
    cases r with
    | @cons _ u0 _ ur ra rw' =>
      obtain rfl : u0 = Value.ref a := ra
      exact ⟨ur, rfl⟩
  refine PySem.ks_wpAt_mono (Q := SP (ncx CX P w K mg base N ⟨x, qual, params, [], scope, [("__class__", cc)], cda⟩ f A outer s H E) [] { nx := fun _ H' => Q .non H', rt := Q }) (E := (ncx CX P w K mg base N ⟨x, qual, params, [], scope, [("__class__", cc)], cda⟩ f A outer s H E).xe) ?_ (fun fl s' hs => ?_) fun e s' hs => hs
  · have hc0 : ∃ cd, PySem.W.clsIn K C = some cd := by
      cases q : PySem.W.clsIn K C with
      | none =>
        have z := T.sup
        unfold PySem.W.ks_superIn at z
        rw [q] at z
        cases z
      | some cd => exact ⟨cd, rfl⟩
    obtain ⟨cd, hcd2⟩ := hc0
    have hal : PySem.W.alongIn K "__init__" ((cd.mro.dropWhile (· != .ref C)).drop 1) = some (some (.builtin "ValueError.__init__")) := by
      have z := T.sup
      unfold PySem.W.ks_superIn at z
      rw [hcd2] at z
      exact z
    have KX1 : K.In h₁ := I.kIn
    obtain ⟨oD, hD1, hD2⟩ : ∃ oD, h₁.get? C = some oD ∧ oD.data = .cls cd := by
      unfold PySem.W.clsIn at hcd2
      split at hcd2
      · rename_i c d cd' sl ho
        cases hcd2
        exact ⟨_, KX1 _ _ ho, rfl⟩
      · cases hcd2
    obtain ⟨t1, hax⟩ := exo_at I.hok ha
    have hself : scope.names.lookup s0 = some .local := S.par s0 (List.mem_cons_self ..)
    have IA : PySem.W.InstAt h₁ a { cls := .ref C, dict := none, data := .fields #[.ref t1, .none, .none, .none, .bool false, .none] } C none := ⟨hax, rfl, rfl, trivial⟩
    obtain ⟨pl, he⟩ := hev s.heap.objs.size cda cc
    refine PySem.ks_wpAt_execs_cons (PySem.ks_wpAt_Expr_any (PySem.ks_wpAt_MethodCall (pl := pl) ?_ he) I.quiet (hsw s.heap.objs.size cda cc))
    have kfr : scope.names.lookup ("__class__" : Str) = some .free := S.frk _ (List.mem_cons_self ..)
    refine PySem.ks_wpAt_super_base (f := f) hs kfr (by decide) rfl (KX1 _ _ lk) rfl hp rfl (KX1 _ _ hcode) rfl hvs hfile htop ?_
    obtain ⟨mb, hb1, hb2⟩ := I.mod.blt
    refine PySem.W.ks_loadName_global S.kind hs (PySem.Calls.loadGlobal_builtin (I.mod.glob.keeps I.bk) hmg (hb1.keeps I.bk) ((hb2 _ (by decide)).trans (by decide +kernel : bootBuiltins "super" = some (.type "super"))) ⟨rfl, ?_⟩)
    refine wpAny_loadName_free S.kind kfr rfl ⟨_, KX1 _ _ hcell, rfl⟩ ?_
    have ndP : (s0 :: ps).Nodup := by
      have q := S.nd.sublist (List.take_sublist ((s0 :: ps).length + (["__class__"] : List Str).length) N)
      rw [S.pre] at q
      exact (List.nodup_append.mp q).1
    refine wpAny_loadName_local (v := .ref a) S.kind (by rw [har]; exact hself) hns (by rw [har]; exact zip_look (i := 0) (us := Value.ref a :: us0) ndP rfl rfl) ?_
    refine PySem.ks_wpAny_isType_cls hD1 hD2 ⟨rfl, ?_⟩
    refine PySem.ks_wpAny_call_super hD1 hD2 hax rfl (fun c e => by cases e) (PySem.W.looks_mroIn KX1 T.me) (fun h2 e2 k2 => ?_)
    have I2 : Inv (ncx CX P w K mg base N ⟨x, qual, params, [], scope, [("__class__", cc)], cda⟩ f A outer s H E) [] (startF N (.ref a :: ws) [some (.ref C)]) H { s with heap := h2, toks := s.toks + ((s0 :: ps).zip (Value.ref a :: us0)).length } := I.kept k2
    have hC2 : PySem.W.Looks (model P w) h2 (mroOf (.ref C)) cd.mro := fun A Q E s k q => wpAny_bind ((PySem.W.looks_clsIn I2.kIn hcd2) A _ E s k (wpAny_pure q))
    have IA2 : PySem.W.InstAt h2 a { cls := .ref C, dict := none, data := .fields #[.ref t1, .none, .none, .none, .bool false, .none] } C none := ⟨k2 _ _ hax, rfl, rfl, trivial⟩
    refine PySem.W.kxs_getMethod PySem.W.kxs_ValueError e2 (PySem.W.looks_opaque I2.kIn T.op) hC2 rfl I2.kIn hal (IA2.type.andThen (PySem.W.looks_mroIn I2.kIn T.ve)) (PySem.W.ks_ne KX1 IA hcd2) (by decide) ?_
    -- the call of the bound __init__
    have hu0 : (h2.push (PySem.W.kxs_mw "ValueError.__init__" a)).get? h2.objs.size = some (PySem.W.kxs_mw "ValueError.__init__" a) := by heap_get
    have hn0 : H h2.objs.size = none := I2.hok.fresh (Nat.le_refl _)
    have I3 : Inv (ncx CX P w K mg base N ⟨x, qual, params, [], scope, [("__class__", cc)], cda⟩ f A outer s H E) [(h2.objs.size, PySem.W.kxs_mw "ValueError.__init__" a)] (startF N (.ref a :: ws) [some (.ref C)]) H
        { s with heap := h2.push (PySem.W.kxs_mw "ValueError.__init__" a), toks := s.toks + ((s0 :: ps).zip (Value.ref a :: us0)).length + 1 } := by
      have I3' : Inv (ncx CX P w K mg base N ⟨x, qual, params, [], scope, [("__class__", cc)], cda⟩ f A outer s H E) [] (startF N (.ref a :: ws) [some (.ref C)]) H
        { s with heap := h2.push (PySem.W.kxs_mw "ValueError.__init__" a), toks := s.toks + ((s0 :: ps).zip (Value.ref a :: us0)).length + 1 } := I2.kept (fun b o e => Heap.get?_push_of_some _ e)
      refine I3'.pins_of fun p hp => ?_
      obtain rfl : p = (h2.objs.size, PySem.W.kxs_mw "ValueError.__init__" a) := by simpa using hp
      exact ⟨hu0, hn0, Nat.ne_of_gt I2.lt, I2.nofs (Nat.le_refl _), fun v z => by cases z⟩
    refine PySem.W.kxs_callWith (i := "ValueError.__init__") (x := a) (by rfl) ?_
    have pst : ∀ X : Cx, PA X [.Constant (.str msg) j pc] (tCons (tC (.str msg)) tNil) := fun X => pa_cons pe_str pa_nil
    have ha3 := (pst (ncx CX P w K mg base N ⟨x, qual, params, [], scope, [("__class__", cc)], cda⟩ f A outer s H E)).run cp _ _ _ H (fun vs H' => vs = [.str msg] ∧ H' = H) I3 ⟨rfl, rfl⟩
    refine PySem.Calls.evalArgs_plain (thn ha3 fun vs s1 hh => ?_)
    obtain ⟨xs, H', I4, rv, rfl, rfl⟩ := hh
    have hu4 : s1.heap.get? h2.objs.size = some (PySem.W.kxs_mw "ValueError.__init__" a) := (I4.pin _ (List.mem_append_right _ (List.mem_singleton.mpr rfl))).1
    have hlen : vs.length ≤ sizeLine := by
      rw [← Paired.length rv, sizeLine_eq]
      show 1 ≤ 16777216; decide
    refine ⟨hu4, ?_⟩
    obtain ⟨nm, q, N', bs, bm, sn, sub, ab, col, dd, k0, k1, k2', k3, k5, hC, hbm⟩ := T.ox.cls
    obtain ⟨t4, hax4⟩ := exo_at I4.hok ha
    obtain ⟨hp4, g4, d4, tk4, os4⟩ := s1
    refine PySem.RSX.call_mw (I4.kIn _ _ hC) hax4 hu4 hlen fun h5 t5 k5 hx5 => ?_
    have I4' := I4.pins_of (pins' := []) (fun p hp => absurd hp (by simp))
    have J := I4'.write (t' := tk4) (x := a) (e := a) (o := exo a C none) (by rw [ha]; exact True.intro) (.inl rfl) k5 ⟨_, hx5⟩ (exo_ok hx5)
    have eu : upd H' a (exo a C none) = H' := by
      funext b
      by_cases hb : b = a
      · rw [hb, upd_same, ha]
      · rw [upd_ne hb]
    rw [eu] at J
    exact wpAt_of_wpAny (ht.run [] _ _ _ _ J hq)
  · have fin : ∀ {σ' : L2.St} {H' : Hp} {v : V} {u : Value}, Inv (ncx CX P w K mg base N ⟨x, qual, params, [], scope, [("__class__", cc)], cda⟩ f A outer s H E) [] σ' H' s' → RelV v u → Q v H' → CE outer P w H s Q u s' :=
      fun {σ' H' v u} J rv q => ⟨v, H', J.os, J.bare, J.base, J.hok, rv, q⟩
    cases fl with
    | ret u =>
      obtain ⟨v, σ', H', J, rv, q⟩ := hs
      exact fin J rv q
    | next =>
      obtain ⟨σ', H', J, q⟩ := hs
      exact fin (v := V.non) (u := Value.none) J rfl q
    | brk =>
      obtain ⟨_, _, _, q⟩ := hs
      exact False.elim q
    | cont =>
      obtain ⟨_, _, _, q⟩ := hs
      exact False.elim q
end
end RS

set_option maxRecDepth 100000
set_option maxHeartbeats 4000000
namespace RS
open PySem PySem.Spec PyProof.Rows L2 NdefX He
/-! ### the facts of an own exception class, as Bools -/
def oexB (K : Frg) (C : Addr) : Bool := match K.lookup C with
  | some ⟨.type "type", _, .cls cd, sl⟩ => (match cd.mro, sl.toList with
    | .ref C' :: bm, [_, _, _, _, some (.builtin n), _] => C' == C && n == "ValueError.__new__" && !cd.hasDel && cd.hasDict && PySem.HandSPX.refsVE bm
    | _, _ => false)
  | _ => false
theorem oexB_ok {K : Frg} {C : Addr} (q : oexB K C = true) : ∃ nm q N bs bm sn sub ab col dd k0 k1 k2 k3 k5, K.lookup C = some (excClassObj nm q C N bs bm true sn sub ab col dd k0 k1 k2 k3 k5 "ValueError.__new__") ∧ PySem.HandSPX.refsVE bm = true := by
  unfold oexB at q
  split at q
  · rename_i dd cd sl ho
    split at q
    · rename_i C' bm k0 k1 k2 k3 n k5 hm hs
      simp only [Bool.and_eq_true, beq_iff_eq, Bool.not_eq_true'] at q
      obtain ⟨⟨⟨⟨rfl, rfl⟩, hdel⟩, hdc⟩, ht⟩ := q
      obtain ⟨nm, bs, mro, ns, qn, hd, sn, sub, ab, col, del⟩ := cd
      dsimp only at hm hdel hdc
      subst hm hdel hdc
      have hsl : sl = #[k0, k1, k2, k3, some (.builtin "ValueError.__new__"), k5] := by
        obtain ⟨l⟩ := sl
        simp only at hs
        rw [hs]
      subst hsl
      exact ⟨nm, qn, ns, bs, bm, sn, sub, ab, col, dd, k0, k1, k2, k3, k5, ho, ht⟩
    · cases q
  · cases q
/-- C: an own exception class, with the names of its fields -/
structure ExcT (K : Frg) (C : Addr) : Prop where
  sup : SupC K C
  xf : XfC K C
  is : ExcC K C
def excB (K : Frg) (x : Str) : Bool := oexB K (ga K x) && (eqO (PySem.W.findIn K (.ref (ga K x)) "__setattr__") (some (some (.builtin "object.__setattr__"))) && (decide (PySem.W.subIn K (.ref (ga K x)) (.type "BaseException") = some true) &&
  (decide (PySem.W.typeIn K (.ref (ga K x)) = some (.type "type")) && (PySem.W.keepIn K (.ref (ga K x)) && (eqO (PySem.W.ks_superIn K (ga K x) (ga K x) "__init__") (some (some (.builtin "ValueError.__init__"))) &&
  (eqO (PySem.W.nsIn K cStatics "thirdparty.any") (some none) && (decide (PySem.W.mroIn K (ga K x) (.type "ValueError") = some true) && (decide (PySem.W.mroIn K (ga K x) (.ref (ga K x)) = some true) && (xfB K (ga K x) &&
  (eqO (PySem.W.findIn K (.ref (ga K x)) "__class__") (some (some (.builtin "object.__class__"))) && (eqO (PySem.W.specialIn K (.builtin "object.__class__") "__get__") (some (some (.builtin "getset_descriptor.__get__"))) &&
  (decide (PySem.W.takesIn K (.builtin "object.__class__") = some true) && decide (PySem.W.mroIn K (ga K x) (.type "object") = some true)))))))))))))
theorem excB_ok {K : Frg} {x : Str} (h : excB K x = true) : ExcT K (ga K x) := by
  obtain ⟨h1, h⟩ := ba h
  obtain ⟨h2, h⟩ := ba h
  obtain ⟨h3, h⟩ := ba h
  obtain ⟨h4, h⟩ := ba h
  obtain ⟨h5, h⟩ := ba h
  obtain ⟨h6, h⟩ := ba h
  obtain ⟨h7, h⟩ := ba h
  obtain ⟨h8, h⟩ := ba h
  obtain ⟨h9, h⟩ := ba h
  obtain ⟨h10, h⟩ := ba h
  obtain ⟨h11, h⟩ := ba h
  obtain ⟨h12, h⟩ := ba h
  obtain ⟨h13, h14⟩ := ba h
  have X := xfB_ok h10
  exact ⟨⟨⟨oexB_ok h1, eqO_ok h2, of_decide_eq_true h3, of_decide_eq_true h4, h5⟩, eqO_ok h6, eqO_ok h7, of_decide_eq_true h8, of_decide_eq_true h9⟩, X, ⟨X.ga, X.gg, X.exC, X.hdC, eqO_ok h11, eqO_ok h12, of_decide_eq_true h13, of_decide_eq_true h14⟩⟩
/-- the __init__ of such a class: it stands in the fragment, closed over the class's cell -/
def inA (K : Frg) (x : Str) : Addr := ma K (ga K x) "__init__"
def clxB (K : Frg) (x file : Str) : Bool := PySem.W.keepIn K (.ref (inA K x)) && (eqO (PySem.W.findIn K (.ref (ga K x)) "__init__") (some (some (.ref (inA K x)))) && (decide (PySem.W.typeIn K (.ref (inA K x)) = some (.type "function")) &&
  (match K.lookup (inA K x) with
  | some ⟨_, _, .func fd, _⟩ => eqO (some (some fd.defaults)) (some (some .none)) && (eqO (some (some fd.kwdefaults)) (some (some .none)) && (match fd.code with
    | .ref c => PySem.W.codeIn K (.ref c) fd.qualname && (match K.lookup c with
      | some ⟨_, _, .fields vs, _⟩ => (match vs[2]? with | some (Value.str fl _) => decide (fl = file) | _ => false)
      | _ => false)
    | _ => false) && (match fd.closure with
    | [(_, cc)] => (match K.lookup cc with
      | some ⟨_, _, .cell (some (.ref C)), _⟩ => decide (C = ga K x)
      | _ => false)
    | _ => false))
  | _ => false)))
theorem clxB_ok {K : Frg} {x file : Str} {d : DefR} {P : Program} (h : clxB K x file = true) (ha : d.adr K = inA K x) (e : fnA K (d.adr K) = d.val) (hclo : d.clo = (["__class__"] : List Str)) (hf : P.main.file = file) :
    ∃ fd, FunX K P d.name d.qual d.params d.body d.scope (ga K x) (inA K x) fd ∧ PySem.W.findIn K (.ref (ga K x)) "__init__" = some (some (.ref (inA K x))) ∧ PySem.W.typeIn K (.ref (inA K x)) = some (.type "function") := by
  obtain ⟨h1, h⟩ := ba h
  obtain ⟨h2, h⟩ := ba h
  obtain ⟨h3, c2⟩ := ba h
  rw [ha] at e
  unfold fnA at e
  cases q : K.lookup (inA K x) with
  | none =>
    rw [q] at c2
    cases c2
  | some o =>
    obtain ⟨oc, od, dt, osl⟩ := o
    rw [q] at c2 e
    cases dt with
    | func fd =>
      obtain ⟨n1, n2, n3, n4, n5, n6, n7, n8, n9, n10, n11, n12, n13, n14, n15⟩ := fd
      have e2 : (some (n1, n2, n3, n4, n5, n6, n7.map (·.1), n15) : FnZ) = some (d.name, d.qual, d.params, .stmts d.body, d.scope, mainGlobals, d.clo, builtinsNs) := e
      rw [hclo] at e2
      simp only [Option.some.injEq, Prod.mk.injEq] at e2
      obtain ⟨g1, g2, g3, g4, g5, g6, g7, g8⟩ := e2
      subst g1 g2 g3 g4 g5 g6 g8
      obtain ⟨c3, c4⟩ := ba c2
      have d8 : n8 = .none := Option.some.inj (Option.some.inj (eqO_ok c3))
      obtain ⟨c6, c8⟩ := ba c4
      obtain ⟨c5, c7⟩ := ba c6
      have d9 : n9 = .none := Option.some.inj (Option.some.inj (eqO_ok c5))
      subst d8 d9
      dsimp only at c7 c8
      split at c7
      · rename_i c
        obtain ⟨c9, c10⟩ := ba c7
        split at c10
        · rename_i _ _ vs _ hc
          split at c10
          · rename_i fl _ hv
            split at c8
            · rename_i nm cc
              simp only [List.map_cons, List.map_nil, List.cons.injEq, and_true] at g7
              subst g7
              split at c8
              · rename_i _ _ CC _ hcc
                have z := of_decide_eq_true c8
                subst z
                refine ⟨_, ⟨⟨oc, od, _, _, _, _, c, cc, osl, rfl, q, c9, ⟨_, _, vs, _, fl, _, hc, hv, ?_⟩, _, _, _, hcc⟩, h1⟩, eqO_ok h2, of_decide_eq_true h3⟩
                rw [hf, of_decide_eq_true c10]
                simp
              · cases c8
            · cases c8
          · cases c10
        · cases c10
      · cases c7
    | _ => cases c2
end RS

set_option maxRecDepth 100000
set_option maxHeartbeats 4000000
namespace PySem.RSX
open PySem PySem.Spec PySem.W PySem.Calls PyProof.Rows
section
variable {prog : Program} {w : World} {A : Around} {E : Value → Shared → Prop} {s : Shared} {K : Frag} {x D : Addr} {ox : Obj} {odx : Option Obj}
theorem findObj_dataX {C : Addr} {name : Str} {a g : Value} {od : Option Obj} (hc : (clsIn K C).isSome = true) (ha : findIn K (.ref C) name = some (some a)) (hg : specialIn K a "__get__" = some (some g)) (ht : takesIn K a = some true) : findObj K C od name = some (.bind g a) := by
  obtain ⟨cd, hc⟩ := Option.isSome_iff_exists.mp hc
  unfold findObj
  rw [hc, Option.bind_some, ha, Option.bind_some]
  simp [hg, ht]
theorem kin_classX {Q : Option Value → Shared → Prop} (hga : findIn K (.ref D) "__getattribute__" = some (some (.builtin "BaseException.__getattribute__"))) (hgt : findIn K (.ref D) "__getattr__" = some none) (hsub : subIn K (.ref D) (.type "BaseException") = some true)
    (hdct : hasDictIn K D = true) (ha : findIn K (.ref D) "__class__" = some (some (.builtin "object.__class__")))
    (hn : specialIn K (.builtin "object.__class__") "__get__" = some (some (.builtin "getset_descriptor.__get__"))) (htk : takesIn K (.builtin "object.__class__") = some true) (hm : mroIn K D (.type "object") = some true)
    (X : K.In s.heap) (I : InstAt s.heap x ox D odx) (h : Q (some (.ref D)) { s with toks := s.toks + 1 }) : wpAny (model prog w) A (getAttr? (.ref x) "__class__") Q E s := by
  have hf : findObj K D odx "__class__" = some (.bind (.builtin "getset_descriptor.__get__") (.builtin "object.__class__")) := findObj_dataX (by obtain ⟨cd, hc, _⟩ := any_some hdct; rw [hc]; rfl) ha hn htk
  obtain ⟨hp, g, d, t, os⟩ := s
  have L0 := I.type (M := model prog w)
  have L1 := looks_findIn (M := model prog w) X hga
  have L2 := looks_findIn (M := model prog w) X hgt
  have L3 := looks_find (M := model prog w) X I hf
  have sub : Looks (model prog w) hp (isInstance (.ref x) (.type "BaseException")) true := L0.andThen (looks_subIn X hsub)
  have hx0 : (false && onTheHeap (Value.builtin "BaseException.__getattribute__")) = false := rfl
  have hx2 : (Value.builtin "BaseException.__getattribute__" == Value.builtin "object.__getattribute__") = false := by decide +kernel
  have hx1 : (onTheHeap (Value.ref D) && Value.builtin "BaseException.__getattribute__" == Value.builtin "object.__getattribute__") = false := by rw [hx2]; rfl
  unfold getAttr? getAttrBy? getAttrBy
  refine wpAny_bind (wpAny_mkText (wpAny_bind (wpAny_attempt (wpAny_holding (wpAny_bind (L0.at (wpAny_bind (L1.at ?_))))))))
  show wpAny _ _ (if (onTheHeap (Value.ref D) && Value.builtin "BaseException.__getattribute__" == Value.builtin "object.__getattribute__") = true then _ else _) _ _ _
  rw [hx1, if_neg Bool.false_ne_true]
  unfold getAttrByItsOwn hookBefore
  refine wpAny_bind ?_
  rw [if_pos (show onTheHeap (Value.ref D) = true from rfl)]
  refine L2.at ?_
  refine wpAny_bind (wpAny_attempt (wpAny_holding ?_))
  unfold callGetattribute
  rw [hx0, if_neg Bool.false_ne_true]
  unfold boundAndCalled
  rw [PySem.F.excAttr_ValueError.ga.bind (.ref x)]
  refine wpAny_bind (wpAny_pure ?_)
  show wpAny _ _ (call (.builtin "BaseException.__getattribute__") [.ref x, .str "__class__" t]) _ _ _
  refine wpAny_call (codeAny_call_builtin PySem.F.excAttr_ValueError.ga.plain PySem.F.entry_bexc_ga ?_)
  refine @check_slot (model prog w) _ _ ⟨hp, g, d, t + 1, os⟩ "BaseException.__getattribute__" "BaseException" "__getattribute__" (.ref x) [.str "__class__" t] [] _ (by decide +kernel) (by decide +kernel) sub (PySem.F.args_bexc_ga (.ref x) (.str "__class__" t)) ?_
  unfold Builtin.«object.__getattribute__»
  refine wpAny_bind (wpAny_of_eq (a := ((Value.ref x : Value), [Value.str "__class__" t])) (by first | rfl | (simp only [slotArgs]; rfl)) ?_)
  refine wpAny_bind (wpAny_pure (wpAny_bind (L0.at (wpAny_bind (L3.at ?_)))))
  show wpAny _ _ (holding [Value.builtin "object.__class__"] (call (.builtin "getset_descriptor.__get__") [.builtin "object.__class__", .ref x, .ref D]) >>= ret) _ _ _
  refine wpAny_bind (wpAny_holding (wpAny_call (class_get (s := ⟨hp, g, d, t + 1, os⟩) (ox := ox) (od := odx) X I hm ?_)))
  refine wpAny_pure ?_
  show wpAny _ _ (handedOut (.ref D)) _ _ _
  rw [handedOut_of (v := .ref D) rfl]
  first
    | exact wpAny_pure (wpAny_pure h)
    | exact wpAny_pure h
    | exact wpAny_pure (wpAny_bind (wpAny_pure (wpAny_pure h)))
theorem kitx_excX (hga : findIn K (.ref D) "__getattribute__" = some (some (.builtin "BaseException.__getattribute__"))) (hgt : findIn K (.ref D) "__getattr__" = some none) (hsub : subIn K (.ref D) (.type "BaseException") = some true) (hdct : hasDictIn K D = true) (ha : findIn K (.ref D) "__class__" = some (some (.builtin "object.__class__")))
    (hn : specialIn K (.builtin "object.__class__") "__get__" = some (some (.builtin "getset_descriptor.__get__"))) (htk : takesIn K (.builtin "object.__class__") = some true) (hm : mroIn K D (.type "object") = some true) :
    KitX K (.ref x) (.ref D) (fun h => ∃ odx, InstAt h x ox D odx) where
  ty := fun _ _ _ ⟨_, I⟩ => I.type
  it := fun _ _ X _ => by
    obtain ⟨cdD, hcD, _⟩ := any_some hdct
    unfold clsIn at hcD
    split at hcD
    · rename_i c' d' cd' sl' ho
      intro A' Q' E' s' k q
      unfold isType loadHead
      exact wpAny_bind (wpAny_loadPart (k _ _ (X _ _ ho)) (wpAny_pure q))
    · cases hcD
  ne := fun h tp dd its n sl X htp => by
    obtain ⟨cdD, hcD, _⟩ := any_some hdct
    refine Bool.eq_false_iff.mpr fun q => ?_
    have e : D = tp := Value.ref.inj (beq_iff_eq.mp q)
    subst e
    unfold clsIn at hcD
    split at hcD
    · rename_i c' d' cd' sl' ho
      have z := (X _ _ ho).symm.trans htp
      cases z
    · cases hcD
  ca := fun X ⟨_, I⟩ k => kin_classX hga hgt hsub hdct ha hn htk hm X I k
end
end PySem.RSX
namespace RS
open PySem PySem.Spec PyProof.Rows L2 NdefX He
/-- isinstance(e, c), e the exception that the suite holds, with its fields or without -/
theorem call_isX {X : Cx} {a D : Addr} {cls : Value} {oe : Obj} {d : Option Addr} {pn : List (Addr × Obj)} (C : ExcC X.K D) (hz : Zc cls d oe) (hf : ∃ vs, oe.data = .fields vs) : CallR (X.suite a ((a, oe) :: pn)) (.builtin "isinstance") (fun xs H Q => cls = .ref D ∧ (∀ dd, d = some dd → ∃ fs, H dd = some (.xd fs)) ∧ rIsE X.K D a xs H Q) := by
  intro pins s σ H xs us Q I r h
  obtain ⟨rfl, hd, c, cv, b, rfl, hcv, e, q⟩ := h
  cases r with
  | cons rx rr =>
    cases rr with
    | cons rt rr =>
      cases rr
      cases rx
      have ec := hcv _ rt
      subst ec
      obtain ⟨hget, _⟩ := I.pin (a, oe) (List.mem_append.mpr (.inl List.mem_cons_self))
      obtain ⟨vs, hv⟩ := hf
      have J : ∃ odx, PySem.W.InstAt s.heap a oe D odx := by
        obtain ⟨oc, od, oda, osl⟩ := oe
        obtain ⟨h1, h2⟩ := hz
        dsimp only at h1 h2 hv
        subst h1 h2 hv
        cases od with
        | none => exact ⟨none, hget, rfl, rfl, trivial⟩
        | some dd =>
          obtain ⟨fs, e⟩ := hd dd rfl
          have hx : ObjOk X.prog X.w H s.heap dd (.xd fs) := I.hok dd _ e
          obtain ⟨mA, hns, hr⟩ := hx
          obtain ⟨od, ho, hl⟩ := lookIn_ns hns
          exact ⟨some od, hget, rfl, rfl, ho⟩
      exact PySem.W.kia_one (PySem.RSX.kitx_excX C.hg C.hk C.hs C.hd C.ha C.hn C.ht C.hm) I.kIn J e (fun z => nomatch z) fun tk => ⟨.bl b, H, I.kept (t' := tk) fun _ _ z => z, rfl, q⟩
/-! ### the promise of an own exception's __init__: names, its fields -/
def spEx (C : Addr) (names : List Str) : Sp := fun vs H Q _ => ∃ (a : Addr) (ws : List V), vs = .ref a :: ws ∧ ws.length = names.length ∧ H a = some (exo a C none) ∧ (names = [] → Q .non H) ∧
  (names ≠ [] → ∀ dx H2, H dx = none → dx ≠ a → H2 a = some (exo a C (some dx)) → H2 dx = some (exd dx ((names.zip ws).reverse)) → (∀ b, b ≠ a → b ≠ dx → H2 b = H b) → Q .non H2)
theorem mkEx {C : Addr} {names : List Str} {vs : List V} {H1 : Hp} {Q : XK} (hl : vs.length = names.length) (hn : names ≠ []) (h2 : vs.length ≤ 1000) (k : ∀ d, H1 d = none → Q (.ref C) (some d) (upd H1 d (.xd ((names.zip vs).reverse)))) :
    vs.length ≤ 1000 ∧ ∀ a, H1 a = none → spEx C names (.ref a :: (vs ++ [])) (upd H1 a (exo a C none))
      (fun v H2 => v = .non ∧ ∃ (d : Addr) (fs : List (Str × V)), H2 a = some (exo a C (some d)) ∧ H2 d = some (exd d fs) ∧ H1 d = none ∧ Q (.ref C) (some d) (upd (del H2 a) d (.xd fs))) (fun _ _ _ => False) := by
  refine ⟨h2, fun a ha => ⟨a, vs, by rw [List.append_nil], hl, upd_same, fun z => absurd z hn, fun _ dx H2 hd hne e1 e2 e3 => ⟨rfl, dx, _, e1, e2, ?_, ?_⟩⟩⟩
  · rw [upd_ne hne] at hd
    exact hd
  · have e : upd (del H2 a) dx (.xd ((names.zip vs).reverse)) = upd H1 dx (.xd ((names.zip vs).reverse)) := by
      funext b
      by_cases hb : b = dx
      · rw [hb, upd_same, upd_same]
      · rw [upd_ne hb, upd_ne hb]
        by_cases hba : b = a
        · rw [hba, del_same, ha]
        · rw [del_ne hba, e3 b hba hb, upd_ne hba]
    rw [e]
    refine k dx ?_
    rw [upd_ne hne] at hd
    exact hd
/-- the exception class x, at C, by name -/
structure Exk (P : Program) (w : World) (K : Frg) (mg : Str → Option Value) (base : Heap) (x : Str) (C : Addr) (names : List Str) : Prop where
  ex : ∃ (fI : Addr) (fd : FuncData) (ps : List Str), FnOk P w K mg base CX0 1 fI fd ps (spEx C names) ∧ Binds K fd ps [] ∧ PySem.W.findIn K (.ref C) "__init__" = some (some (.ref fI)) ∧ PySem.W.typeIn K (.ref fI) = some (.type "function")
  g : mg x = some (.ref C)
  T : ExcT K C
theorem FunX.bindsN {P : Program} {K : Frg} {x qual : Str} {params : Arguments} {body : List Stmt} {scope : Scope} {C f : Addr} {fd : FuncData} {ps : List Str} (F : FunX K P x qual params body scope C f fd)
    (h : ∀ (doc pm ct : Value) (an : Option Addr) (cda cc : Addr) (us : List Value), us.length = ps.length → bindArgs (PySem.W.fnX x qual params body scope [("__class__", cc)] .none .none doc pm an (.ref cda) ct) ⟨us, []⟩ = pure (ps.zip us)) : Binds K fd ps [] := by
  obtain ⟨oc, od, doc, pm, ct, an, cda, cc, osl, rfl, _⟩ := F.ex
  exact .all (h doc pm ct an cda cc)
section
variable {X : Cx} {x : Str} {C : Addr} {names : List Str} {e : Expr} {es : List Expr} {ta : TA} {p pos : Pos}
/-- x(e, ..) to be raised -/
theorem pmk_ex (F : Exk X.prog X.w X.K X.mg X.base x C names) (hr : Room 2 X.A) (ha : PA X (e :: es) ta) (hg : Gl X x := by rfl)
    (hdb : (x == ("__debug__" : Str)) = false := by decide) (he : starEach (e :: es) X.env = (false, eval e X.env) :: starEach es X.env := by rfl) (hpl : (backTo pos (starEach es X.env)).any (·.1) = false := by rfl) :
    PMk X (.Call (.Name x p) (e :: es) [] pos) (tMkO C (spEx C names) [] ta) := by
  obtain ⟨fI, fd, ps, G, b, i, t⟩ := F.ex
  exact pmk_oex F.T.sup.ox i t G hr b .nil pass0 hg F.g ha hdb he hpl
/-- x(e, ..) in a try's body, x a def that may raise -/
theorem pe_fnS {CX : CXT} {lv : Nat} {ps : List Str} {sp : Sp} {E : L2.St → XK} (F : Cal X.prog X.w X.K X.mg X.base CX lv x ps [] sp) (hr : Room lv X.A) (hx : ∀ σ, PassesAt CX X σ (E σ)) (ha : PA X (e :: es) ta) (hg : Gl X x := by rfl) (hdb : (x == ("__debug__" : Str)) = false := by decide)
    (he : starEach (e :: es) X.env = (false, eval e X.env) :: starEach es X.env := by rfl) (hpl : (backTo pos (starEach es X.env)).any (·.1) = false := by rfl) : PE X (.Call (.Name x p) (e :: es) [] pos) (tCallS sp E ta) := by
  obtain ⟨f, fd, ds, G, m, k, v, b⟩ := F.ex
  cases v
  exact pe_callS G hr hg m k b hx ha hdb he hpl
/-- == and != of data, the fragment named (within an except suite) -/
theorem op_eqDs {K : Frg} (hk : X.K = K) (hu : X.A.units + 64 < cLine) : OpR X (compareOp .Eq) (rEqD K) := hk ▸ op_eqD hu
theorem op_neDs {K : Frg} (hk : X.K = K) (hu : X.A.units + 64 < cLine) : OpR X (compareOp .NotEq) (rNeD K) := hk ▸ op_neD hu
/-- // by a divisor that is not 0, of up to 9000 bits -/
theorem op_fdivNW : OpR X (binaryOp .FloorDiv) (rI (fun _ j => j ≠ 0 ∧ j.natAbs.log2 < 9000) fun i j => .int (i.fdiv j)) := opI fun _ _ _ _ _ _ _ hc q => floordiv_int hc.1 q (.inl (PyProof.noPylong_of_log2 hc.2))
end
end RS

set_option maxRecDepth 100000
set_option maxHeartbeats 4000000
namespace RS
open PySem PySem.Spec PyProof.Rows L2 NdefX He
def top (i : Nat) : Stmt := PySem.Challenge.pw_risingscales_k25_numbers_by_own_sums.main.body.getD i (.Pass ⟨0, 0, 0, 0⟩)
abbrev FnP (K : PySem.W.Frag) (x qual : Str) (st : Stmt) (f : Addr) (fd : FuncData) : Prop := FunD K x qual (defArgs st) (defBody st) (defScope st) [] [] f fd
section
variable {P : Program} {w : World} {K : PySem.W.Frag} {mg : Str → Option Value} {base : Heap}
structure TPen (mg : Str → Option Value) : Prop where
  b_int : mg "int" = none
  b_len : mg "len" = none
abbrev s__law_pen : Stmt := top 15
theorem sc__law_pen : FnScope ["_law_script", "_law_cell"] ["_law_script"] (defScope s__law_pen) := ⟨rfl, rfl, rfl, by decide +kernel, rfl, by decide +kernel, by decide +kernel⟩
theorem ok_pen {f : Addr} {fd : FuncData} (F : FnP K "_law_pen" "_law_pen" s__law_pen f fd) (T : TPen mg) : FnOk P w K mg base CX0 1 f fd ["_law_script"] (spPen K) := by
  refine F.ok sc__law_pen (fun vs H Q E h => ?_) (fun cdv A outer s H vs Q E hr h => ?_)
  · obtain ⟨a, ns, rfl, _⟩ := h
    rfl
  · obtain ⟨a, ns, rfl, hS, k⟩ := h
    refine ⟨_, PSs.nox (pss_one (ps_ret (pe_disp (pps_cons pe_str (pe_lc (own := [("_law_cell", 1)]) (by rfl) sc__law_pen.nd (pi_list (pe_slice sl_list (pv 0) po_none (po_some pe_int))) (blkOk_by (own := [("_law_cell", 1)]) (N := ["_law_script", "_law_cell"]) (sc := defScope s__law_pen) (by decide +kernel)) (fun _ _ _ _ _ => (pg_name (i := 1) sc__law_pen.nd rfl (by first | exact Or.inl rfl | exact Or.inr rfl))) (fun _ _ _ _ _ => pts_nil) (fun _ _ _ _ _ => (pe_callTy call_int1 (by rfl) T.b_int (by decide +kernel) (pa_cons (pv 1) pa_nil)))) (pps_cons pe_str pe_int (pps_cons pe_str pe_int pps_nil))) (by rfl) (by rfl) (fun z => by cases z) (by decide)))), ?_⟩
    intro p hp
    have hS1 : SqL K (upd H p (.dK [])) a (ns.map V.int) := (Same.new hp).seq hS
    refine ⟨_, rfl, _, rfl, a, _, rfl, hS1, fun q hq => ?_⟩
    have hq1 : (upd (upd H p (.dK [])) q (.lst (cutV (ns.map V.int) none (some 63)))) q = some (.lst (cutV (ns.map V.int) none (some 63))) := upd_same
    obtain ⟨cs, hcs, hlen⟩ := cut63 ns
    rw [hcs] at hq1 ⊢
    refine ⟨_, rfl, ⟨_, SqL.of hq1⟩, fun D hD => lc_list (K := K) (a := q) (xs := cs.map V.int) (fun i H' => H' D = some (.lst ((cs.take i).map V.int)) ∧ Same (upd (upd H p (.dK [])) q (.lst (cs.map V.int))) H') ⟨upd_same, Same.new hD⟩ (fun i H' _ ⟨_, s⟩ => SqL.of (s _ _ hq1)) ?_ ?_⟩
    · rintro i x H' hi ⟨e1, e2⟩
      obtain ⟨z, hz, rfl⟩ := ints_at hi
      refine ⟨rfl, ?_⟩
      refine ⟨_, rfl, .inl ⟨_, rfl, _, e1, (by rw [List.length_map, List.length_take, sizeLine_eq]; omega), ?_, ?_⟩⟩
      · rw [take_int hz]; exact upd_same
      · exact RS.Same.mut e2 hD
    · rintro H' ⟨e1, e2⟩
      rw [List.length_map, List.take_length] at e1
      have hpp := e2 _ _ (upd_old hq (upd_same (H := H) (a := p) (o := .dK [])))
      refine ⟨hpp, [(.inr "cells", .ref D), (.inr "at", .int 0), (.inr "rest", .int 0)], rfl, by show 3 ≤ 15; decide, ?_⟩
      have npD : p ≠ D := fun z => by rw [z] at hpp; rw [hpp] at e1; cases e1
      refine k _ D _ (fun b o e => ?_) hp (free2 hp hq hD) ⟨cs, 0, 0, ?_, by rw [upd_ne npD.symm]; exact e1, hlen, by decide, by decide⟩
      · rw [upd_ne (ne_of_none e hp)]
        exact e2 _ _ (upd_old hq (upd_old hp e))
      · rw [upd_same, merge_pen]
abbrev s__law_draw : Stmt := top 16
theorem sc__law_draw : FnScope ["_law_pen_here", "_law_many", "_law_at", "_law_cell", "_law_mixed", "_law_digit"] ["_law_pen_here", "_law_many"] (defScope s__law_draw) := ⟨rfl, rfl, rfl, by decide +kernel, rfl, by decide +kernel, by decide +kernel⟩
theorem ok_draw {f : Addr} {fd : FuncData} (F : FnP K "_law_draw" "_law_draw" s__law_draw f fd) (T : TPen mg) : FnOk P w K mg base CX0 1 f fd ["_law_pen_here", "_law_many"] spDraw := by
  refine F.ok sc__law_draw (fun vs H Q E h => ?_) (fun cdv A outer s H vs Q E hr h => ?_)
  · obtain ⟨a, c, ns, b, rfl, _⟩ := h
    rfl
  · obtain ⟨p, c, m, b, rfl, hm, hm2, P, k⟩ := h
    obtain ⟨cs, a, r, hp, hc, hl, h0, h1⟩ := P.ex
    have hu := hu_of hr
    refine ⟨_, PSs.nox (pss_cons (ps_if (pt_cmpR op_gt (pe_dget hu (pv 0) pe_str (fun _ _ => rfl)) pe_int (nomark _)) (pss_cons (ps_set (i := 5) sc__law_draw.nd rfl (by first | exact Or.inl rfl | exact Or.inr rfl) (pe_op op_mod (pe_callTy call_int1 (by rfl) T.b_int (by decide +kernel) (pa_cons (pe_dget hu (pv 0) pe_str (fun _ _ => rfl)) pa_nil)) (pv 1)))
      (pss_cons (ps_dput hu (pv 0) pe_str (pe_op op_fdivW (pe_dget hu (pv 0) pe_str (fun _ _ => rfl)) (pv 1)) rfl)
      (pss_one (ps_ret (pv 5))))) pss_nil)
      (pss_cons (ps_set (i := 2) sc__law_draw.nd rfl (by first | exact Or.inl rfl | exact Or.inr rfl) (pe_dget hu (pv 0) pe_str (fun _ _ => rfl)))
      (pss_cons (ps_dput hu (pv 0) pe_str (pe_op op_add (pv 2) pe_int) rfl)
      (pss_cons (ps_set (i := 3) sc__law_draw.nd rfl (by first | exact Or.inl rfl | exact Or.inr rfl) (pe_op op_add (pe_op op_mul pe_int (pv 2)) pe_int))
      (Evl.pss_cut (ps_if (pt_cmpR (op_neD hr.units) (pe_dget hu (pv 0) pe_str (fun _ _ => rfl)) (pe_lst pa_nil) (nomark _)) (pss_one (ps_set (i := 3) sc__law_draw.nd rfl (by first | exact Or.inl rfl | exact Or.inr rfl) (pe_ix ix_list (pe_dget hu (pv 0) pe_str (fun _ _ => rfl)) (pe_op op_mod (pe_callTy call_int1 (by rfl) T.b_int (by decide +kernel) (pa_cons (pv 2) pa_nil)) (pe_callB call_len (by rfl) T.b_len PySem.boot_len (pa_cons (pe_dget hu (pv 0) pe_str (fun _ _ => rfl)) pa_nil))) (fun _ _ => rfl)))) pss_nil)
      (Evl.pss_cut (ps_if (PW.pt (pw_and (pt_cmpR op_lt (pv 2) (pe_callB call_len (by rfl) T.b_len PySem.boot_len (pa_cons (pe_dget hu (pv 0) pe_str (fun _ _ => rfl)) pa_nil)) (nomark _)) (pw_and1 (pt_cmpR op_ge (pv 3) (pe_op op_pow pe_int pe_int) (nomark _))))) (pss_cons (ps_dput hu (pv 0) pe_str (pe_op op_fdivW (pe_op op_sub (pv 3) (pe_op op_pow pe_int pe_int)) (pv 1)) rfl)
      (pss_one (ps_ret (pe_op op_mod (pe_callTy call_int1 (by rfl) T.b_int (by decide +kernel) (pa_cons (pe_op op_sub (pv 3) (pe_op op_pow pe_int pe_int)) pa_nil)) (pv 1))))) pss_nil)
      (pss_cons (ps_set (i := 4) sc__law_draw.nd rfl (by first | exact Or.inl rfl | exact Or.inr rfl) (pe_op op_add (pe_op op_add (pe_op op_add (pe_op op_mul (pe_op op_mod (pe_callTy call_int1 (by rfl) T.b_int (by decide +kernel) (pa_cons (pv 3) pa_nil)) pe_int) pe_int) (pe_op op_mul (pe_op op_mul pe_int (pv 2)) (pv 2))) (pe_op op_mul pe_int (pv 2))) pe_int))
      (pss_cons (ps_set (i := 4) sc__law_draw.nd rfl (by first | exact Or.inl rfl | exact Or.inr rfl) (pe_op op_mod (pe_callTy call_int1 (by rfl) T.b_int (by decide +kernel) (pa_cons (pv 4) pa_nil)) pe_int))
      (pss_cons (ps_set (i := 4) sc__law_draw.nd rfl (by first | exact Or.inl rfl | exact Or.inr rfl) (pe_op op_mod (pe_callTy call_int1 (by rfl) T.b_int (by decide +kernel) (pa_cons (pe_op op_mul (pv 4) (pe_op op_add (pv 4) pe_int)) pa_nil)) pe_int))
      (pss_one (ps_ret (pe_op op_mod (pe_callTy call_int1 (by rfl) T.b_int (by decide +kernel) (pa_cons (pe_op op_fdivW (pe_op op_mod (pe_callTy call_int1 (by rfl) T.b_int (by decide +kernel) (pa_cons (pe_op op_mul (pv 4) (pv 4)) pa_nil)) pe_int) pe_int) pa_nil)) (pv 1))))))))))))), ?_⟩
    -- if pen["rest"] > 0
    refine ⟨_, rfl, p, _, rfl, dg_rest hp, _, _, rfl, rfl, _, rfl, ?_⟩
    refine ite2 (fun hr0 => ?_) (fun _ => ?_)
    · refine ⟨_, rfl, p, _, rfl, dg_rest hp, .inl ⟨_, rfl, _, rfl, _, _, rfl, rfl, hm, ?_⟩⟩
      refine ⟨_, rfl, p, _, rfl, dg_rest hp, _, rfl, _, _, rfl, rfl, ⟨hm, hm2⟩, _, rfl, p, _, rfl, dp_rest hp, ?_⟩
      exact ⟨_, rfl, k _ _ (mod_in hm).1 (mod_in hm).2 ⟨cs, a, _, upd_same, by rw [upd_ne (ne_of hc hp (by intro z; cases z))]; exact hc, hl, h0, by omega⟩ Sav.own⟩
    · refine ⟨_, rfl, p, _, rfl, dg_at hp, _, rfl, _, _, rfl, rfl, _, rfl, p, _, rfl, dp_at hp, _, rfl, _, _, rfl, rfl, .inl ⟨by decide, by decide⟩, _, _, rfl, rfl, ?_⟩
      have hc1 : (upd H p (.dK (penD c (a + 1) r))) c = some (.lst (cs.map V.int)) := by rw [upd_ne (ne_of hc hp (by intro z; cases z))]; exact hc
      -- cell
      refine ⟨fun σ' H' => ∃ z : Int, σ' = [some (.ref p), some (.int m), some (.int a), some (.int z), none, none] ∧ Same (upd H p (.dK (penD c (a + 1) r))) H', ?_, ?_⟩
      · refine ⟨_, rfl, p, _, rfl, dg_cells upd_same, by decide, fun l hl2 => ?_⟩
        have S1 := Same.new (o := .lst []) hl2
        have hp2 := S1 _ _ (upd_same (H := H) (a := p) (o := .dK (penD c (a + 1) r)))
        have hc2 := S1 _ _ hc1
        refine ⟨.list (cs.map PyData.int), .list [], .lst (SqL.of hc2) (dp_ints cs), .lst (SqL.of upd_same) .nil, shaped_ints cs, by decide, _, rfl, ?_⟩
        rw [eqv_nil]
        refine ite2 (fun hn => ?_) (fun hn => ?_)
        · have hpos : 0 < cs.length := by cases cs with | nil => cases hn | cons _ _ => exact Nat.succ_pos _
          obtain ⟨z, hz⟩ := at_mod (a := a) hpos
          refine ⟨_, rfl, p, _, rfl, dg_cells hp2, _, rfl, .inl ⟨_, rfl, _, rfl, p, _, rfl, dg_cells hp2, _, _, rfl, .inl ⟨_, SqL.of hc2, rfl⟩, _, _, rfl, rfl, by rw [List.length_map]; omega, _, _, _, _, rfl, rfl, SqL.of hc2, hz, ?_⟩⟩
          exact ⟨z, rfl, S1⟩
        · exact ⟨_, rfl, S1⟩
      · rintro σ' H' ⟨z, rfl, S⟩
        have hp' := S _ _ (upd_same (H := H) (a := p) (o := .dK (penD c (a + 1) r)))
        have hc' := S _ _ hc1
        have Sv : Sav p H H' := Sav.own.trans (Same.sav S)
        refine ⟨fun σ' H'' => σ' = [some (.ref p), some (.int m), some (.int a), some (.int z), none, none] ∧ H'' = H', ?_, ?_⟩
        · refine ⟨_, rfl, _, rfl, p, _, rfl, dg_cells hp', _, _, rfl, .inl ⟨_, SqL.of hc', rfl⟩, _, _, rfl, rfl, _, rfl, ?_⟩
          refine ite2 (fun _ => ?_) (fun _ => iteF ⟨rfl, rfl⟩)
          refine ⟨_, rfl, _, _, rfl, rfl, ⟨by decide, by decide, by decide⟩, _, _, rfl, rfl, _, rfl, ?_⟩
          refine ite2 (fun _ => ?_) (fun _ => ⟨rfl, rfl⟩)
          refine ⟨_, rfl, _, _, rfl, rfl, ⟨by decide, by decide, by decide⟩, _, _, rfl, rfl, _, rfl, _, _, rfl, rfl, ⟨hm, hm2⟩, _, rfl, p, _, rfl, dp_rest hp', ?_⟩
          refine ⟨_, rfl, _, _, rfl, rfl, ⟨by decide, by decide, by decide⟩, _, _, rfl, rfl, .inl ⟨_, rfl, _, rfl, _, _, rfl, rfl, hm, ?_⟩⟩
          exact k _ _ (mod_in hm).1 (mod_in hm).2 ⟨cs, a + 1, _, upd_same, by rw [upd_ne (ne_of hc' hp' (by intro z; cases z))]; exact hc', hl, by omega, by omega⟩ (Sv.trans Sav.own)
        · rintro σ' H'' ⟨rfl, rfl⟩
          refine ⟨_, rfl, .inl ⟨_, rfl, _, _, rfl, rfl, (by show (0 : Int) < _; decide), _, _, rfl, rfl, .inr ⟨by decide, by decide⟩, _, rfl, _, _, rfl, rfl, .inl ⟨by decide, by decide⟩, _, rfl, _, _, rfl, rfl, .inr ⟨by omega, by omega⟩, _, _, rfl, rfl, _, rfl, _, _, rfl, rfl, .inl ⟨by decide, by decide⟩, _, _, rfl, rfl, _, _, rfl, rfl, ?_⟩⟩
          refine ⟨_, rfl, .inl ⟨_, rfl, _, _, rfl, rfl, (by show (0 : Int) < _; decide), ?_⟩⟩
          refine ⟨_, rfl, _, rfl, _, _, rfl, rfl, _, _, rfl, rfl, mul_mod (by decide) (by decide), .inl ⟨_, rfl, _, _, rfl, rfl, (by show (0 : Int) < _; decide), ?_⟩⟩
          refine ⟨_, rfl, _, rfl, _, _, rfl, rfl, mul_mod (by decide) (by decide), .inl ⟨_, rfl, _, _, rfl, rfl, (by show (0 : Int) < _; decide), _, _, rfl, rfl, ⟨by decide, by decide⟩, .inl ⟨_, rfl, _, rfl, _, _, rfl, rfl, hm, ?_⟩⟩⟩
          exact k _ _ (mod_in hm).1 (mod_in hm).2 ⟨cs, a + 1, r, hp', hc', hl, by omega, by omega⟩ Sv
end
end RS

set_option maxRecDepth 100000
set_option maxHeartbeats 4000000
namespace RS
open PySem PySem.Spec PyProof.Rows L2 NdefX He
/-! ### numbers: the mathematics -/
def nG (a b : Int) : Int := ((Int.gcd a b : Nat) : Int)
def nP (a b : Int) : Int := if b < 0 then -nG a b else nG a b
def nT (a b : Int) : Int := a.fdiv (nP a b)
def nL (a b : Int) : Int := b.fdiv (nP a b)
theorem nG_pos {a b : Int} (h : b ≠ 0) : 0 < nG a b := by
  unfold nG
  have : 0 < Int.gcd a b := Int.gcd_pos_of_ne_zero_right a h
  omega
theorem nP_ne {a b : Int} (h : b ≠ 0) : nP a b ≠ 0 := by
  unfold nP
  have := nG_pos (a := a) h
  split <;> omega
theorem nP_abs (a b : Int) : (nP a b).natAbs = Int.gcd a b := by
  unfold nP nG
  split <;> simp
theorem nP_le {a b : Int} (h : b ≠ 0) : (nP a b).natAbs ≤ b.natAbs := by
  rw [nP_abs]
  exact Nat.le_of_dvd (by omega) (by rw [Int.gcd_eq_natAbs_gcd_natAbs]; exact Nat.gcd_dvd_right _ _)
theorem nP_lt {a b : Int} {k : Nat} (h : b ≠ 0) (hb : b.natAbs < 2 ^ k) : (nP a b).natAbs < 2 ^ k := Nat.lt_of_le_of_lt (nP_le h) hb
theorem gcd_step (x y : Nat) : Int.gcd (y : Int) ((x : Int) % (y : Int)) = Int.gcd (x : Int) (y : Int) := by
  rw [← Int.natCast_emod, Int.gcd_natCast_natCast, Int.gcd_natCast_natCast, Nat.gcd_comm y, ← Nat.gcd_rec, Nat.gcd_comm]
theorem abs_if (i : Int) : (if i < 0 then -i else i) = (i.natAbs : Int) := by split <;> omega
/-- x is of fewer than k bits -/
def Bd (k : Nat) (x : Int) : Prop := x.natAbs < 2 ^ k
theorem Bd.mono {k j : Nat} {x : Int} (h : Bd k x) (hk : k ≤ j) : Bd j x := Nat.lt_of_lt_of_le h (Nat.pow_le_pow_right (by decide) hk)
theorem Bd.mul {k j : Nat} {x y : Int} (h : Bd k x) (h2 : Bd j y) : Bd (k + j) (x * y) := wide_lt h h2
theorem Bd.add {k : Nat} {x y : Int} (h : Bd k x) (h2 : Bd k y) : Bd (k + 1) (x + y) := by
  unfold Bd at *
  rw [Nat.pow_succ]
  omega
theorem Bd.sub {k : Nat} {x y : Int} (h : Bd k x) (h2 : Bd k y) : Bd (k + 1) (x - y) := by
  unfold Bd at *
  rw [Nat.pow_succ]
  omega
theorem Bd.w {k j : Nat} {x y : Int} (h : Bd k x) (h2 : Bd j y) (h0 : 0 < k := by decide) (h1 : 0 < j := by decide) (h3 : k + j ≤ 1000000 := by decide) : CMulW x y := wide_mul h h2 h0 h1 h3
theorem Bd.log {k : Nat} {x : Int} (h : Bd k x) (h0 : 0 < k := by decide) (h9 : k ≤ 9000 := by decide) : x.natAbs.log2 < 9000 := Nat.lt_of_lt_of_le (PySem.Flt.log2_lt_of h0 h) h9
section
variable {P : Program} {w : World} {K : PySem.W.Frag} {mg : Str → Option Value} {base : Heap} {C_ScaleError C_BadNumber : Addr}
structure TNum (mg : Str → Option Value) : Prop where
  b_isinstance : mg "isinstance" = none
  b_int : mg "int" = none
  b_bool : mg "bool" = none
  b_len : mg "len" = none
  b_abs : mg "abs" = none
  b_tuple : mg "tuple" = none
abbrev s_BadNumber___init__ : Stmt := inClass (top 2) 0
theorem sc_BadNumber___init__ : NScope ["self", "number", "__class__"] ["self", "number"] ["__class__"] (defScope s_BadNumber___init__) := nscope_by (by decide +kernel)
theorem ok_BadNumber___init__ {P : Program} {w : World} {K : PySem.W.Frag} {mg : Str → Option Value} {base : Heap} {C f : Addr} {fd : FuncData} (F : FunX K P "__init__" "BadNumber.__init__" (defArgs s_BadNumber___init__) (defBody s_BadNumber___init__) (defScope s_BadNumber___init__) C f fd) (T : ExcT K C) (n0 : NoAttr K C "number") (hmg : mg "super" = none) (htop : (P.main.scope.names.lookup ("super" : Str)).isSome = false) :
    FnOk P w K mg base CX0 1 f fd ["self", "number"] (spEx C ["number"]) := by
  refine fnx_of (k := 0) F sc_BadNumber___init__ T.sup rfl rfl rfl hmg htop (fun _ _ _ => ⟨_, rfl⟩) (fun _ _ _ => rfl) (fun vs H Q E h => ?_) (fun cda cc A outer s H vs Q E hr h => ?_)
  · obtain ⟨a, ws, rfl, hl, _⟩ := h
    simpa using hl
  · obtain ⟨a, ws, rfl, hl, ha, k0, k⟩ := h
    match ws, hl with
    | [v0], _ =>
      refine ⟨a, [v0], _, rfl, ha, (pss_one (ps_ost (pv 0) (pv 1))), ?_⟩
      refine ⟨_, rfl, _, rfl, a, C, rfl, T.sup.ox, n0, .inl ⟨ha, fun dx hd hne => ?_⟩⟩
      exact k (by simp) dx _ hd hne upd_same (by rw [upd_ne hne, upd_same]; rfl) (fun b h1 h2 => by rw [upd_ne h1, upd_ne h2])
abbrev s_is_whole : Stmt := top 4
theorem sc_is_whole : FnScope ["value"] ["value"] (defScope s_is_whole) := ⟨rfl, rfl, rfl, by decide +kernel, rfl, by decide +kernel, by decide +kernel⟩
/-- what is_whole says of a value -/
structure WhV (K : Frg) (H : Hp) (v : V) (b : Bool) : Prop where
  ex : ∃ (n : String) (b1 b2 : Bool), TyX K H v (.type n) ∧ kitB n "int" = some b1 ∧ kitB n "bool" = some b2 ∧ b = (b1 && !b2)
theorem WhV.int {K : Frg} {H : Hp} (i : Int) : WhV K H (.int i) true := ⟨"int", true, false, .base (.int i), by decide +kernel, by decide +kernel, rfl⟩
theorem WhV.bl {K : Frg} {H : Hp} (i : Bool) : WhV K H (.bl i) false := ⟨"bool", true, true, .base (.bl i), by decide +kernel, by decide +kernel, rfl⟩
theorem WhV.str {K : Frg} {H : Hp} (i : Str) : WhV K H (.str i) false := ⟨"str", false, false, .base (.str i), by decide +kernel, by decide +kernel, rfl⟩
def spWhole (K : Frg) : Sp := fun vs H Q _ => ∃ v b, vs = [v] ∧ WhV K H v b ∧ Q (.bl b) H
theorem ok_is_whole {f : Addr} {fd : FuncData} (F : FnP K "is_whole" "is_whole" s_is_whole f fd) (T : TNum mg) : FnOk P w K mg base CX0 1 f fd ["value"] (spWhole K) := by
  refine F.ok sc_is_whole (fun vs H Q E h => ?_) (fun cdv A outer s H vs Q E hr h => ?_)
  · obtain ⟨v, b, rfl, _⟩ := h
    rfl
  · obtain ⟨v, b, rfl, W, k⟩ := h
    obtain ⟨n, b1, b2, ty, k1, k2, rfl⟩ := W.ex
    refine ⟨_, PSs.nox (pss_one (ps_ret (pe_and (pe_callB call_isi (by rfl) T.b_isinstance (by decide +kernel) (pa_cons (pv 0) (pa_cons (pe_bltn (v := .ty "int") (u := .type "int") (by rfl) T.b_int (by decide +kernel) rfl) pa_nil))) (pe_one (pe_not (pe_callB call_isi (by rfl) T.b_isinstance (by decide +kernel) (pa_cons (pv 0) (pa_cons (pe_bltn (v := .ty "bool") (u := .type "bool") (by rfl) T.b_bool (by decide +kernel) rfl) pa_nil)))))))), ?_⟩
    refine ⟨_, rfl, _, _, _, _, b1, rfl, .ty _, ty, kit_ty k1, _, rfl, ?_⟩
    cases b1 with
    | false => exact k
    | true => exact ⟨_, rfl, _, _, _, _, b2, rfl, .ty _, ty, kit_ty k2, _, rfl, k⟩
abbrev s_common : Stmt := top 6
theorem sc_common : FnScope ["one", "two"] ["one", "two"] (defScope s_common) := ⟨rfl, rfl, rfl, by decide +kernel, rfl, by decide +kernel, by decide +kernel⟩
def spCommon : Sp := fun vs H Q _ => ∃ a b : Int, vs = [.int a, .int b] ∧ Q (.int (nG a b)) H
theorem ok_common {f : Addr} {fd : FuncData} (F : FnP K "common" "common" s_common f fd) (T : TNum mg) : FnOk P w K mg base CX0 1 f fd ["one", "two"] spCommon := by
  refine F.ok sc_common (fun vs H Q E h => ?_) (fun cdv A outer s H vs Q E hr h => ?_)
  · obtain ⟨a, b, rfl, _⟩ := h
    rfl
  · obtain ⟨a, b, rfl, k⟩ := h
    refine ⟨_, PSs.nox (pss_cons (ps_par (i := 0) (j := 1) (by rfl) sc_common.nd rfl rfl (by decide) rfl rfl (pa_cons (pe_callB call_abs (by rfl) T.b_abs (by decide +kernel) (pa_cons (pv 0) pa_nil)) (pa_cons (pe_callB call_abs (by rfl) T.b_abs (by decide +kernel) (pa_cons (pv 1) pa_nil)) pa_nil)) (by rfl))
      (pss_cons (ps_while PassesOwn.never (pt_truth (pv 1) (by intro _; rfl)) (pss_one (ps_par (i := 0) (j := 1) (by rfl) sc_common.nd rfl rfl (by decide) rfl rfl (pa_cons (pv 1) (pa_cons (pe_op op_mod (pv 0) (pv 1)) pa_nil)) (by rfl))))
      (pss_one (ps_ret (pv 0))))), ?_⟩
    refine ⟨_, rfl, a, rfl, _, rfl, b, rfl, _, _, rfl, ?_⟩
    rw [abs_if, abs_if]
    refine ⟨fun m σ H' => H' = H ∧ ∃ x y : Nat, σ = [some (.int x), some (.int y)] ∧ Int.gcd (x : Int) (y : Int) = Int.gcd a b ∧ m = y, ⟨b.natAbs, rfl, a.natAbs, b.natAbs, rfl, by rw [Int.gcd_natCast_natCast]; rfl, rfl⟩, ?_⟩
    rintro m σ H' ⟨rfl, x, y, rfl, hg, rfl⟩
    refine ⟨_, rfl, _, rfl, ?_⟩
    by_cases hy : m = 0
    · subst hy
      refine iteF ⟨_, rfl, ?_⟩
      have e : nG a b = (x : Int) := by
        unfold nG
        rw [← hg, Int.gcd_natCast_natCast, Nat.gcd_zero_right]
      rw [← e]
      exact k
    · have e : ((m : Int) != 0) = true := by simpa using hy
      rw [e]
      refine iteT ⟨fun σ' H'' => H'' = H' ∧ ∃ x y : Nat, σ' = [some (.int x), some (.int y)] ∧ Int.gcd (x : Int) (y : Int) = Int.gcd a b ∧ y < m, fun σ' H'' ⟨e1, x', y', e2, e3, e4⟩ => ⟨y', e4, e1, x', y', e2, e3, rfl⟩, ?_⟩
      refine ⟨_, rfl, _, rfl, _, rfl, _, _, rfl, rfl, by show (0 : Int) < (m : Int); omega, _, _, rfl, rfl, m, x % m, ?_, ?_, Nat.mod_lt _ (by omega)⟩
      · rw [Int.natCast_emod]
        rfl
      · rw [Int.natCast_emod, gcd_step]
        exact hg
abbrev s_is_number : Stmt := top 7
theorem sc_is_number : FnScope ["value"] ["value"] (defScope s_is_number) := ⟨rfl, rfl, rfl, by decide +kernel, rfl, by decide +kernel, by decide +kernel⟩
/-- what is_number says of a value -/
inductive NumV (K : Frg) (H : Hp) : V → Bool → Prop
  | no {v : V} {n : String} : TyX K H v (.type n) → kitB n "tuple" = some false → NumV K H v false
  | len {a : Addr} {xs : List V} : H a = some (.tup xs) → xs.length ≠ 2 → NumV K H (.ref a) false
  | bad {a : Addr} {x y : V} {bx by_ : Bool} : H a = some (.tup [x, y]) → WhV K H x bx → WhV K H y by_ → (bx && by_) = false → NumV K H (.ref a) false
  | num {a : Addr} {x y : Int} : H a = some (.tup [.int x, .int y]) → NumV K H (.ref a) (decide (1 ≤ y) && decide (nG x y = 1))
def spIsNum (K : Frg) : Sp := fun vs H Q _ => ∃ v b, vs = [v] ∧ NumV K H v b ∧ Q (.bl b) H
theorem ok_is_number {f : Addr} {fd : FuncData} (F : FnP K "is_number" "is_number" s_is_number f fd) (T : TNum mg) (M_is_whole : Cal P w K mg base CX0 1 "is_whole" ["value"] [] (spWhole K)) (M_common : Cal P w K mg base CX0 1 "common" ["one", "two"] [] spCommon) :
    FnOk P w K mg base CX0 2 f fd ["value"] (spIsNum K) := by
  refine F.ok sc_is_number (fun vs H Q E h => ?_) (fun cdv A outer s H vs Q E hr h => ?_)
  · obtain ⟨v, b, rfl, _⟩ := h
    rfl
  · obtain ⟨v, b, rfl, W, k⟩ := h
    refine ⟨_, PSs.nox (Evl.pss_cut (ps_if (PW.pt (pw_or (pt_not (pt_val (pe_callB call_isi (by rfl) T.b_isinstance (by decide +kernel) (pa_cons (pv 0) (pa_cons (pe_bltn (v := .ty "tuple") (u := .type "tuple") (by rfl) T.b_tuple (by decide +kernel) rfl) pa_nil))))) (pw_or1 (pt_cmpR op_ne (pe_callB call_len (by rfl) T.b_len PySem.boot_len (pa_cons (pv 0) pa_nil)) pe_int (nomark _))))) (pss_one (ps_ret pe_bl)) pss_nil)
      (Evl.pss_cut (ps_if (PW.pt (pw_or (pt_not (pt_val (pe_fn M_is_whole (hr.mono (by decide)) pass0 (pa_cons (pe_ix ix_tup (pv 0) pe_int (fun _ _ => rfl)) pa_nil)))) (pw_or1 (pt_not (pt_val (pe_fn M_is_whole (hr.mono (by decide)) pass0 (pa_cons (pe_ix ix_tup (pv 0) pe_int (fun _ _ => rfl)) pa_nil))))))) (pss_one (ps_ret pe_bl)) pss_nil)
      (pss_one (ps_ret (pe_and (pe_cmpR op_ge (pe_ix ix_tup (pv 0) pe_int (fun _ _ => rfl)) pe_int (nomark _)) (pe_one (pe_cmpR op_eq (pe_fn M_common (hr.mono (by decide)) pass0 (pa_cons (pe_ix ix_tup (pv 0) pe_int (fun _ _ => rfl)) (pa_cons (pe_ix ix_tup (pv 0) pe_int (fun _ _ => rfl)) pa_nil))) pe_int (nomark _)))))))), ?_⟩
    have kt : kitB "tuple" "tuple" = some true := by decide +kernel
    refine ⟨fun σ' H' => H' = H ∧ σ' = [some v] ∧ ∃ a x y bx b2, v = .ref a ∧ H a = some (.tup [x, y]) ∧ WhV K H x bx ∧ WhV K H y b2 ∧ (((bx && b2) = false ∧ b = false) ∨ ∃ i j, x = .int i ∧ y = .int j ∧ bx = true ∧ b2 = true ∧ b = (decide (1 ≤ j) && decide (nG i j = 1))), ?_, ?_⟩
    · cases W with
      | no ty kk => exact ⟨_, rfl, _, _, _, _, false, rfl, .ty _, ty, kit_ty kk, _, rfl, iteT (iteT k)⟩
      | @len a xs e hl =>
        refine ⟨_, rfl, _, _, _, _, true, rfl, .ty _, .base (.tup e), kit_ty kt, _, rfl, iteF ⟨_, rfl, _, xs.length, rfl, .inr ⟨xs, SqT.of e, rfl⟩, rfl, _, rfl, ?_⟩⟩
        have e2 : decide (V.int (xs.length : Int) = V.int 2) = false := by rw [decide_eq_false_iff_not]; intro z; have := V.int.inj z; omega
        rw [e2]
        exact iteT k
      | bad e wx wy hb => exact ⟨_, rfl, _, _, _, _, true, rfl, .ty _, .base (.tup e), kit_ty kt, _, rfl, iteF ⟨_, rfl, _, 2, rfl, .inr ⟨_, SqT.of e, rfl⟩, rfl, _, rfl, iteF ⟨rfl, rfl, _, _, _, _, _, rfl, e, wx, wy, .inl ⟨hb, rfl⟩⟩⟩⟩
      | num e => exact ⟨_, rfl, _, _, _, _, true, rfl, .ty _, .base (.tup e), kit_ty kt, _, rfl, iteF ⟨_, rfl, _, 2, rfl, .inr ⟨_, SqT.of e, rfl⟩, rfl, _, rfl, iteF ⟨rfl, rfl, _, _, _, _, _, rfl, e, .int _, .int _, .inr ⟨_, _, rfl, rfl, rfl, rfl, rfl⟩⟩⟩⟩
    · rintro σ' H' ⟨rfl, rfl, a, x, y, bx, b2, rfl, e, wx, wy, hb⟩
      refine ⟨fun σ' H'' => H'' = H' ∧ σ' = [some (.ref a)] ∧ ∃ i j, x = .int i ∧ y = .int j ∧ b = (decide (1 ≤ j) && decide (nG i j = 1)), ?_, ?_⟩
      · refine ⟨_, rfl, a, _, _, _, rfl, rfl, SqT.of e, rfl, x, bx, rfl, wx, _, rfl, ?_⟩
        cases bx with
        | false =>
          rcases hb with ⟨_, rfl⟩ | ⟨i, j, _, _, z, _⟩
          · exact iteT (iteT k)
          · cases z
        | true =>
          refine iteF ⟨_, rfl, a, _, _, _, rfl, rfl, SqT.of e, rfl, y, b2, rfl, wy, _, rfl, ?_⟩
          rcases hb with ⟨hb, rfl⟩ | ⟨i, j, rfl, rfl, _, rfl, hb⟩
          · obtain rfl : b2 = false := by simpa using hb
            exact iteT k
          · exact iteF ⟨rfl, rfl, i, j, rfl, rfl, hb⟩
      · rintro σ' H'' ⟨rfl, rfl, i, j, rfl, rfl, rfl⟩
        refine ⟨_, rfl, a, _, _, _, rfl, rfl, SqT.of e, rfl, _, _, rfl, rfl, _, rfl, ?_⟩
        by_cases hj : 1 ≤ j
        · rw [decide_eq_true (show j ≥ 1 from hj)]
          rw [decide_eq_true hj] at k
          refine iteT ⟨_, rfl, a, _, _, _, rfl, rfl, SqT.of e, rfl, _, rfl, a, _, _, _, rfl, rfl, SqT.of e, rfl, i, j, rfl, rfl, ?_⟩
          rw [dec_int, ← Bool.true_and (nG i j == 1)]
          exact k
        · rw [decide_eq_false (show ¬ j ≥ 1 from hj)]
          rw [decide_eq_false hj] at k
          exact iteF k
abbrev s_number : Stmt := top 8
theorem sc_number : FnScope ["top", "low", "part"] ["top", "low"] (defScope s_number) := ⟨rfl, rfl, rfl, by decide +kernel, rfl, by decide +kernel, by decide +kernel⟩
/-- number(a, b): what it answers, or the refusal -/
def spNum (C : Addr) : Sp := fun vs H Q E => ∃ a b : Int, vs = [.int a, .int b] ∧ Bd 2000 b ∧ (b = 0 → ∀ d, H d = none → E (.ref C) (some d) (upd H d (.xd [("number", .int 0)]))) ∧ (b ≠ 0 → ∀ p, H p = none → Q (.ref p) (upd H p (.tup [.int (nT a b), .int (nL a b)])))
theorem ok_number {f : Addr} {fd : FuncData} (F : FunD K "number" "number" (defArgs s_number) (defBody s_number) (defScope s_number) [.int 1] [] f fd) (T : TNum mg) (M_BadNumber : Exk P w K mg base "BadNumber" C_BadNumber ["number"]) (M_common : Cal P w K mg base CX0 1 "common" ["one", "two"] [] spCommon) :
    FnOk P w K mg base (L2.CX P w) 3 f fd ["top", "low"] (spNum C_BadNumber) := by
  refine F.ok sc_number (fun vs H Q E h => ?_) (fun cdv A outer s H vs Q E hr h => ?_)
  · obtain ⟨a, b, rfl, _⟩ := h
    rfl
  · obtain ⟨a, b, rfl, hb, kE, kQ⟩ := h
    refine ⟨_, (pss_cons (ps_if (pt_cmpR op_eq (pv 1) pe_int (nomark _)) (pss_one (ps_raise rfl (takes_of rfl rfl rfl rfl) (pmk_ex M_BadNumber (hr.mono (by decide)) (pa_cons (pv 1) pa_nil)))) pss_nil)
      (pss_cons (ps_set (i := 2) sc_number.nd rfl (by first | exact Or.inl rfl | exact Or.inr rfl) (pe_fn M_common (hr.mono (by decide)) pass0 (pa_cons (pv 0) (pa_cons (pv 1) pa_nil))))
      (Evl.pss_cut (ps_if (pt_cmpR op_lt (pv 1) pe_int (nomark _)) (pss_one (ps_set (i := 2) sc_number.nd rfl (by first | exact Or.inl rfl | exact Or.inr rfl) (pe_un un_neg (pv 2)))) pss_nil)
      (pss_one (ps_ret (pe_tup (pa_cons (pe_op op_fdivNW (pv 0) (pv 2)) (pa_cons (pe_op op_fdivNW (pv 1) (pv 2)) pa_nil)))))))), ?_⟩
    refine ⟨_, rfl, rfl, _, rfl, ?_⟩
    by_cases h0 : b = 0
    · subst h0
      exact iteT ⟨_, rfl, mkEx rfl (by simp) (by decide) fun d hd => kE rfl d hd⟩
    · have e : decide (V.int b = V.int 0) = false := by rw [decide_eq_false_iff_not]; intro z; exact h0 (V.int.inj z)
      rw [e]
      refine iteF ⟨_, rfl, _, rfl, a, b, rfl, ?_⟩
      refine ⟨fun σ' H' => H' = H ∧ σ' = [some (.int a), some (.int b), some (.int (nP a b))], ?_, ?_⟩
      · refine ⟨_, rfl, _, _, rfl, rfl, _, rfl, ?_⟩
        unfold nP
        refine ite2 (fun h => ?_) (fun h => ?_)
        · rw [if_pos (of_decide_eq_true h)]
          exact ⟨_, rfl, _, rfl, rfl, rfl⟩
        · rw [if_neg fun z => h (decide_eq_true z)]
          exact ⟨rfl, rfl⟩
      · rintro σ' H' ⟨rfl, rfl⟩
        have hp : nP a b ≠ 0 ∧ (nP a b).natAbs.log2 < 9000 := ⟨nP_ne h0, Bd.log (k := 2000) (nP_lt h0 hb)⟩
        exact ⟨_, rfl, _, rfl, _, _, rfl, rfl, hp, _, rfl, _, rfl, _, _, rfl, rfl, hp, by show 2 ≤ sizeLine; rw [sizeLine_eq]; decide, fun p hp => kQ h0 p hp⟩
/-- a pair of ints in lowest terms, below 2 ^ k -/
structure Nm (k : Nat) (a b : Int) : Prop where
  bt : Bd k a
  bl : Bd k b
  ps : 1 ≤ b
  gc : nG a b = 1
abbrev s_plus : Stmt := top 9
theorem sc_plus : FnScope ["a", "b"] ["a", "b"] (defScope s_plus) := ⟨rfl, rfl, rfl, by decide +kernel, rfl, by decide +kernel, by decide +kernel⟩
def sp_plus : Sp := fun vs H Q _ => ∃ (p q : Addr) (a b c d : Int), vs = [.ref p, .ref q] ∧ H p = some (.tup [.int a, .int b]) ∧ H q = some (.tup [.int c, .int d]) ∧ Bd 500 a ∧ Bd 500 b ∧ Bd 500 c ∧ Bd 500 d ∧ b * d ≠ 0 ∧ ∀ r, H r = none → Q (.ref r) (upd H r (.tup [.int (nT (a * d + c * b) (b * d)), .int (nL (a * d + c * b) (b * d))]))
theorem ok_plus {f : Addr} {fd : FuncData} (F : FnP K "plus" "plus" s_plus f fd) (M_number2 : Cal P w K mg base (L2.CX P w) 3 "number" ["top", "low"] [] (spNum C_BadNumber)) : FnOk P w K mg base CX0 4 f fd ["a", "b"] sp_plus := by
  refine F.ok sc_plus (fun vs H Q E h => ?_) (fun cdv A outer s H vs Q E hr h => ?_)
  · obtain ⟨p, q, a, b, c, d, rfl, _⟩ := h
    rfl
  · obtain ⟨p, q, a, b, c, d, rfl, e1, e2, h1, h2, h3, h4, hn, k⟩ := h
    refine ⟨_, PSs.nox (pss_one (ps_ret (pe_fn M_number2 (hr.mono (by decide)) passL (pa_cons (pe_op op_add (pe_op op_mulW (pe_ix ix_tup (pv 0) pe_int (fun _ _ => rfl)) (pe_ix ix_tup (pv 1) pe_int (fun _ _ => rfl))) (pe_op op_mulW (pe_ix ix_tup (pv 1) pe_int (fun _ _ => rfl)) (pe_ix ix_tup (pv 0) pe_int (fun _ _ => rfl)))) (pa_cons (pe_op op_mulW (pe_ix ix_tup (pv 0) pe_int (fun _ _ => rfl)) (pe_ix ix_tup (pv 1) pe_int (fun _ _ => rfl))) pa_nil))))), ?_⟩
    exact ⟨_, rfl, p, _, _, _, rfl, rfl, SqT.of e1, rfl, _, rfl, q, _, _, _, rfl, rfl, SqT.of e2, rfl, _, _, rfl, rfl, h1.w h4, _, rfl, q, _, _, _, rfl, rfl, SqT.of e2, rfl, _, rfl, p, _, _, _, rfl, rfl, SqT.of e1, rfl, _, _, rfl, rfl, h3.w h2, _, _, rfl, rfl, _, rfl, p, _, _, _, rfl, rfl, SqT.of e1, rfl, _, rfl, q, _, _, _, rfl, rfl, SqT.of e2, rfl, _, _, rfl, rfl, h2.w h4, _, _, rfl, (h2.mul h4).mono (by decide), fun z => absurd z hn, fun _ => k⟩
abbrev s_minus : Stmt := top 10
theorem sc_minus : FnScope ["a", "b"] ["a", "b"] (defScope s_minus) := ⟨rfl, rfl, rfl, by decide +kernel, rfl, by decide +kernel, by decide +kernel⟩
def sp_minus : Sp := fun vs H Q _ => ∃ (p q : Addr) (a b c d : Int), vs = [.ref p, .ref q] ∧ H p = some (.tup [.int a, .int b]) ∧ H q = some (.tup [.int c, .int d]) ∧ Bd 500 a ∧ Bd 500 b ∧ Bd 500 c ∧ Bd 500 d ∧ b * d ≠ 0 ∧ ∀ r, H r = none → Q (.ref r) (upd H r (.tup [.int (nT (a * d - c * b) (b * d)), .int (nL (a * d - c * b) (b * d))]))
theorem ok_minus {f : Addr} {fd : FuncData} (F : FnP K "minus" "minus" s_minus f fd) (M_number2 : Cal P w K mg base (L2.CX P w) 3 "number" ["top", "low"] [] (spNum C_BadNumber)) : FnOk P w K mg base CX0 4 f fd ["a", "b"] sp_minus := by
  refine F.ok sc_minus (fun vs H Q E h => ?_) (fun cdv A outer s H vs Q E hr h => ?_)
  · obtain ⟨p, q, a, b, c, d, rfl, _⟩ := h
    rfl
  · obtain ⟨p, q, a, b, c, d, rfl, e1, e2, h1, h2, h3, h4, hn, k⟩ := h
    refine ⟨_, PSs.nox (pss_one (ps_ret (pe_fn M_number2 (hr.mono (by decide)) passL (pa_cons (pe_op op_sub (pe_op op_mulW (pe_ix ix_tup (pv 0) pe_int (fun _ _ => rfl)) (pe_ix ix_tup (pv 1) pe_int (fun _ _ => rfl))) (pe_op op_mulW (pe_ix ix_tup (pv 1) pe_int (fun _ _ => rfl)) (pe_ix ix_tup (pv 0) pe_int (fun _ _ => rfl)))) (pa_cons (pe_op op_mulW (pe_ix ix_tup (pv 0) pe_int (fun _ _ => rfl)) (pe_ix ix_tup (pv 1) pe_int (fun _ _ => rfl))) pa_nil))))), ?_⟩
    exact ⟨_, rfl, p, _, _, _, rfl, rfl, SqT.of e1, rfl, _, rfl, q, _, _, _, rfl, rfl, SqT.of e2, rfl, _, _, rfl, rfl, h1.w h4, _, rfl, q, _, _, _, rfl, rfl, SqT.of e2, rfl, _, rfl, p, _, _, _, rfl, rfl, SqT.of e1, rfl, _, _, rfl, rfl, h3.w h2, _, _, rfl, rfl, _, rfl, p, _, _, _, rfl, rfl, SqT.of e1, rfl, _, rfl, q, _, _, _, rfl, rfl, SqT.of e2, rfl, _, _, rfl, rfl, h2.w h4, _, _, rfl, (h2.mul h4).mono (by decide), fun z => absurd z hn, fun _ => k⟩
abbrev s_times : Stmt := top 11
theorem sc_times : FnScope ["a", "b"] ["a", "b"] (defScope s_times) := ⟨rfl, rfl, rfl, by decide +kernel, rfl, by decide +kernel, by decide +kernel⟩
def sp_times : Sp := fun vs H Q _ => ∃ (p q : Addr) (a b c d : Int), vs = [.ref p, .ref q] ∧ H p = some (.tup [.int a, .int b]) ∧ H q = some (.tup [.int c, .int d]) ∧ Bd 500 a ∧ Bd 500 b ∧ Bd 500 c ∧ Bd 500 d ∧ b * d ≠ 0 ∧ ∀ r, H r = none → Q (.ref r) (upd H r (.tup [.int (nT (a * c) (b * d)), .int (nL (a * c) (b * d))]))
theorem ok_times {f : Addr} {fd : FuncData} (F : FnP K "times" "times" s_times f fd) (M_number2 : Cal P w K mg base (L2.CX P w) 3 "number" ["top", "low"] [] (spNum C_BadNumber)) : FnOk P w K mg base CX0 4 f fd ["a", "b"] sp_times := by
  refine F.ok sc_times (fun vs H Q E h => ?_) (fun cdv A outer s H vs Q E hr h => ?_)
  · obtain ⟨p, q, a, b, c, d, rfl, _⟩ := h
    rfl
  · obtain ⟨p, q, a, b, c, d, rfl, e1, e2, h1, h2, h3, h4, hn, k⟩ := h
    refine ⟨_, PSs.nox (pss_one (ps_ret (pe_fn M_number2 (hr.mono (by decide)) passL (pa_cons (pe_op op_mulW (pe_ix ix_tup (pv 0) pe_int (fun _ _ => rfl)) (pe_ix ix_tup (pv 1) pe_int (fun _ _ => rfl))) (pa_cons (pe_op op_mulW (pe_ix ix_tup (pv 0) pe_int (fun _ _ => rfl)) (pe_ix ix_tup (pv 1) pe_int (fun _ _ => rfl))) pa_nil))))), ?_⟩
    exact ⟨_, rfl, p, _, _, _, rfl, rfl, SqT.of e1, rfl, _, rfl, q, _, _, _, rfl, rfl, SqT.of e2, rfl, _, _, rfl, rfl, h1.w h3, _, rfl, p, _, _, _, rfl, rfl, SqT.of e1, rfl, _, rfl, q, _, _, _, rfl, rfl, SqT.of e2, rfl, _, _, rfl, rfl, h2.w h4, _, _, rfl, (h2.mul h4).mono (by decide), fun z => absurd z hn, fun _ => k⟩
end
end RS

set_option maxRecDepth 100000
set_option maxHeartbeats 4000000
namespace RS
open PySem PySem.Spec PyProof.Rows L2 NdefX He
section
variable {P : Program} {w : World} {K : PySem.W.Frag} {mg : Str → Option Value} {base : Heap} {C_ScaleError C_BadNumber : Addr}
abbrev s_over : Stmt := top 12
theorem sc_over : FnScope ["a", "b"] ["a", "b"] (defScope s_over) := ⟨rfl, rfl, rfl, by decide +kernel, rfl, by decide +kernel, by decide +kernel⟩
def spOver (C : Addr) : Sp := fun vs H Q E => ∃ (p q : Addr) (a b c d : Int), vs = [.ref p, .ref q] ∧ H p = some (.tup [.int a, .int b]) ∧ H q = some (.tup [.int c, .int d]) ∧ Bd 500 a ∧ Bd 500 b ∧ Bd 500 c ∧ Bd 500 d ∧
  (c = 0 → ∀ x, H x = none → E (.ref C) (some x) (upd H x (.xd [("number", .ref q)]))) ∧ (c ≠ 0 → b * c ≠ 0 ∧ ∀ r, H r = none → Q (.ref r) (upd H r (.tup [.int (nT (a * d) (b * c)), .int (nL (a * d) (b * c))])))
theorem ok_over {f : Addr} {fd : FuncData} (F : FnP K "over" "over" s_over f fd) (M_BadNumber : Exk P w K mg base "BadNumber" C_BadNumber ["number"]) (M_number2 : Cal P w K mg base (L2.CX P w) 3 "number" ["top", "low"] [] (spNum C_BadNumber)) :
    FnOk P w K mg base (L2.CX P w) 4 f fd ["a", "b"] (spOver C_BadNumber) := by
  refine F.ok sc_over (fun vs H Q E h => ?_) (fun cdv A outer s H vs Q E hr h => ?_)
  · obtain ⟨p, q, a, b, c, d, rfl, _⟩ := h
    rfl
  · obtain ⟨p, q, a, b, c, d, rfl, e1, e2, h1, h2, h3, h4, kE, kQ⟩ := h
    refine ⟨_, (pss_cons (ps_if (pt_cmpR op_eq (pe_ix ix_tup (pv 1) pe_int (fun _ _ => rfl)) pe_int (nomark _)) (pss_one (ps_raise rfl (takes_of rfl rfl rfl rfl) (pmk_ex M_BadNumber (hr.mono (by decide)) (pa_cons (pv 1) pa_nil)))) pss_nil)
      (pss_one (ps_ret (pe_fn M_number2 (hr.mono (by decide)) passL (pa_cons (pe_op op_mulW (pe_ix ix_tup (pv 0) pe_int (fun _ _ => rfl)) (pe_ix ix_tup (pv 1) pe_int (fun _ _ => rfl))) (pa_cons (pe_op op_mulW (pe_ix ix_tup (pv 0) pe_int (fun _ _ => rfl)) (pe_ix ix_tup (pv 1) pe_int (fun _ _ => rfl))) pa_nil)))))), ?_⟩
    refine ⟨_, rfl, q, _, _, _, rfl, rfl, SqT.of e2, rfl, rfl, _, rfl, ?_⟩
    by_cases h0 : c = 0
    · subst h0
      exact iteT ⟨_, rfl, mkEx rfl (by simp) (by show 1 ≤ 1000; decide) fun d hd => kE rfl d hd⟩
    · have e : decide (V.int c = V.int 0) = false := by rw [decide_eq_false_iff_not]; intro z; exact h0 (V.int.inj z)
      rw [e]
      obtain ⟨hn, k⟩ := kQ h0
      exact iteF ⟨_, rfl, p, _, _, _, rfl, rfl, SqT.of e1, rfl, _, rfl, q, _, _, _, rfl, rfl, SqT.of e2, rfl, _, _, rfl, rfl, h1.w h4, _, rfl, p, _, _, _, rfl, rfl, SqT.of e1, rfl, _, rfl, q, _, _, _, rfl, rfl, SqT.of e2, rfl, _, _, rfl, rfl, h2.w h3, _, _, rfl, (h2.mul h3).mono (by decide), fun z => absurd z hn, fun _ => k⟩
abbrev s_compared : Stmt := top 13
theorem sc_compared : FnScope ["a", "b", "left", "right"] ["a", "b"] (defScope s_compared) := ⟨rfl, rfl, rfl, by decide +kernel, rfl, by decide +kernel, by decide +kernel⟩
def cmpI (l r : Int) : Int := (if decide (l > r) = true then 1 else 0) - (if decide (l < r) = true then 1 else 0)
def spCmp : Sp := fun vs H Q _ => ∃ (p q : Addr) (a b c d : Int), vs = [.ref p, .ref q] ∧ H p = some (.tup [.int a, .int b]) ∧ H q = some (.tup [.int c, .int d]) ∧ Bd 500 a ∧ Bd 500 b ∧ Bd 500 c ∧ Bd 500 d ∧ Q (.int (cmpI (a * d) (c * b))) H
theorem ok_compared {f : Addr} {fd : FuncData} (F : FnP K "compared" "compared" s_compared f fd) (T : TNum mg) : FnOk P w K mg base CX0 1 f fd ["a", "b"] spCmp := by
  refine F.ok sc_compared (fun vs H Q E h => ?_) (fun cdv A outer s H vs Q E hr h => ?_)
  · obtain ⟨p, q, a, b, c, d, rfl, _⟩ := h
    rfl
  · obtain ⟨p, q, a, b, c, d, rfl, e1, e2, h1, h2, h3, h4, k⟩ := h
    refine ⟨_, PSs.nox (pss_cons (ps_set (i := 2) sc_compared.nd rfl (by first | exact Or.inl rfl | exact Or.inr rfl) (pe_op op_mulW (pe_ix ix_tup (pv 0) pe_int (fun _ _ => rfl)) (pe_ix ix_tup (pv 1) pe_int (fun _ _ => rfl))))
      (pss_cons (ps_set (i := 3) sc_compared.nd rfl (by first | exact Or.inl rfl | exact Or.inr rfl) (pe_op op_mulW (pe_ix ix_tup (pv 1) pe_int (fun _ _ => rfl)) (pe_ix ix_tup (pv 0) pe_int (fun _ _ => rfl))))
      (pss_one (ps_ret (pe_op op_sub (pe_callTy call_int1 (by rfl) T.b_int (by decide +kernel) (pa_cons (pe_cmpR op_gt (pv 2) (pv 3) (nomark _)) pa_nil)) (pe_callTy call_int1 (by rfl) T.b_int (by decide +kernel) (pa_cons (pe_cmpR op_lt (pv 2) (pv 3) (nomark _)) pa_nil))))))), ?_⟩
    exact ⟨_, rfl, p, _, _, _, rfl, rfl, SqT.of e1, rfl, _, rfl, q, _, _, _, rfl, rfl, SqT.of e2, rfl, _, _, rfl, rfl, h1.w h4, _, rfl, q, _, _, _, rfl, rfl, SqT.of e2, rfl, _, rfl, p, _, _, _, rfl, rfl, SqT.of e1, rfl, _, _, rfl, rfl, h3.w h2,
      _, rfl, _, rfl, _, _, rfl, rfl, .inr ⟨_, rfl, _, rfl, _, rfl, _, _, rfl, rfl, .inr ⟨_, rfl, _, _, rfl, rfl, k⟩⟩⟩
abbrev s__law_number : Stmt := top 17
theorem sc__law_number : FnScope ["_law_top", "_law_low", "_law_one", "_law_two"] ["_law_top", "_law_low"] (defScope s__law_number) := ⟨rfl, rfl, rfl, by decide +kernel, rfl, by decide +kernel, by decide +kernel⟩
def spLNum : Sp := fun vs H Q _ => ∃ a b : Int, vs = [.int a, .int b] ∧ Bd 2000 b ∧ b ≠ 0 ∧ ∀ p, H p = none → Q (.ref p) (upd H p (.tup [.int (nT a b), .int (nL a b)]))
theorem ok_law_number {f : Addr} {fd : FuncData} (F : FnP K "_law_number" "_law_number" s__law_number f fd) (T : TNum mg) : FnOk P w K mg base CX0 1 f fd ["_law_top", "_law_low"] spLNum := by
  refine F.ok sc__law_number (fun vs H Q E h => ?_) (fun cdv A outer s H vs Q E hr h => ?_)
  · obtain ⟨a, b, rfl, _⟩ := h
    rfl
  · obtain ⟨a, b, rfl, hb, h0, k⟩ := h
    refine ⟨_, PSs.nox (pss_cons (ps_par (i := 2) (j := 3) (by rfl) sc__law_number.nd rfl rfl (by decide) rfl rfl (pa_cons (pe_callB call_abs (by rfl) T.b_abs (by decide +kernel) (pa_cons (pv 0) pa_nil)) (pa_cons (pe_callB call_abs (by rfl) T.b_abs (by decide +kernel) (pa_cons (pv 1) pa_nil)) pa_nil)) (by rfl))
      (pss_cons (ps_while PassesOwn.never (pt_cmpR op_ne (pv 3) pe_int (nomark _)) (pss_one (ps_par (i := 2) (j := 3) (by rfl) sc__law_number.nd rfl rfl (by decide) rfl rfl (pa_cons (pv 3) (pa_cons (pe_op op_mod (pe_callTy call_int1 (by rfl) T.b_int (by decide +kernel) (pa_cons (pv 2) pa_nil)) (pv 3)) pa_nil)) (by rfl))))
      (Evl.pss_cut (ps_if (pt_cmpR op_lt (pv 1) pe_int (nomark _)) (pss_one (ps_set (i := 2) sc__law_number.nd rfl (by first | exact Or.inl rfl | exact Or.inr rfl) (pe_un un_neg (pv 2)))) pss_nil)
      (pss_one (ps_ret (pe_tup (pa_cons (pe_op op_fdivNW (pv 0) (pv 2)) (pa_cons (pe_op op_fdivNW (pv 1) (pv 2)) pa_nil)))))))), ?_⟩
    refine ⟨_, rfl, a, rfl, _, rfl, b, rfl, _, _, rfl, ?_⟩
    rw [abs_if, abs_if]
    refine ⟨fun m σ H' => H' = H ∧ ∃ x y : Nat, σ = [some (.int a), some (.int b), some (.int x), some (.int y)] ∧ Int.gcd (x : Int) (y : Int) = Int.gcd a b ∧ m = y, ⟨b.natAbs, rfl, a.natAbs, b.natAbs, rfl, by rw [Int.gcd_natCast_natCast]; rfl, rfl⟩, ?_⟩
    rintro m σ H' ⟨rfl, x, y, rfl, hg, rfl⟩
    refine ⟨_, rfl, rfl, _, rfl, ?_⟩
    by_cases hy : m = 0
    · subst hy
      refine iteF ?_
      have e : nG a b = (x : Int) := by
        unfold nG
        rw [← hg, Int.gcd_natCast_natCast, Nat.gcd_zero_right]
      rw [← e]
      refine ⟨fun σ' H'' => H'' = H' ∧ ∃ z, σ' = [some (.int a), some (.int b), some (.int (nP a b)), z], ?_, ?_⟩
      · refine ⟨_, rfl, _, _, rfl, rfl, _, rfl, ?_⟩
        unfold nP
        refine ite2 (fun h => ?_) (fun h => ?_)
        · rw [if_pos (of_decide_eq_true h)]
          exact ⟨_, rfl, _, rfl, rfl, _, rfl⟩
        · rw [if_neg fun z => h (decide_eq_true z)]
          exact ⟨rfl, _, rfl⟩
      · rintro σ' H'' ⟨rfl, z, rfl⟩
        have hp : nP a b ≠ 0 ∧ (nP a b).natAbs.log2 < 9000 := ⟨nP_ne h0, Bd.log (k := 2000) (nP_lt h0 hb)⟩
        exact ⟨_, rfl, _, rfl, _, _, rfl, rfl, hp, _, rfl, _, rfl, _, _, rfl, rfl, hp, by show 2 ≤ sizeLine; rw [sizeLine_eq]; decide, fun p hp => k p hp⟩
    · have e : (!decide (V.int (m : Int) = V.int 0)) = true := by
        rw [decide_eq_false fun z => hy (by have := V.int.inj z; omega)]
        rfl
      rw [e]
      refine iteT ⟨fun σ' H'' => H'' = H' ∧ ∃ x y : Nat, σ' = [some (.int a), some (.int b), some (.int x), some (.int y)] ∧ Int.gcd (x : Int) (y : Int) = Int.gcd a b ∧ y < m, fun σ' H'' ⟨e1, x', y', e2, e3, e4⟩ => ⟨y', e4, e1, x', y', e2, e3, rfl⟩, ?_⟩
      refine ⟨_, rfl, _, rfl, .inl ⟨_, rfl, _, rfl, _, _, rfl, rfl, by show (0 : Int) < (m : Int); omega, _, _, rfl, rfl, m, x % m, ?_, ?_, Nat.mod_lt _ (by omega)⟩⟩
      · rw [Int.natCast_emod]
        rfl
      · rw [Int.natCast_emod, gcd_step]
        exact hg
abbrev s__law_below : Stmt := top 18
theorem sc__law_below : FnScope ["_law_a", "_law_b"] ["_law_a", "_law_b"] (defScope s__law_below) := ⟨rfl, rfl, rfl, by decide +kernel, rfl, by decide +kernel, by decide +kernel⟩
def spBelow : Sp := fun vs H Q _ => ∃ (p q : Addr) (a b c d : Int), vs = [.ref p, .ref q] ∧ H p = some (.tup [.int a, .int b]) ∧ H q = some (.tup [.int c, .int d]) ∧ Bd 500 a ∧ Bd 500 b ∧ Bd 500 c ∧ Bd 500 d ∧ Q (.bl (decide (a * d < c * b))) H
theorem ok_below {f : Addr} {fd : FuncData} (F : FnP K "_law_below" "_law_below" s__law_below f fd) : FnOk P w K mg base CX0 1 f fd ["_law_a", "_law_b"] spBelow := by
  refine F.ok sc__law_below (fun vs H Q E h => ?_) (fun cdv A outer s H vs Q E hr h => ?_)
  · obtain ⟨p, q, a, b, c, d, rfl, _⟩ := h
    rfl
  · obtain ⟨p, q, a, b, c, d, rfl, e1, e2, h1, h2, h3, h4, k⟩ := h
    refine ⟨_, PSs.nox (pss_one (ps_ret (pe_cmpR op_lt (pe_op op_mulW (pe_ix ix_tup (pv 0) pe_int (fun _ _ => rfl)) (pe_ix ix_tup (pv 1) pe_int (fun _ _ => rfl))) (pe_op op_mulW (pe_ix ix_tup (pv 1) pe_int (fun _ _ => rfl)) (pe_ix ix_tup (pv 0) pe_int (fun _ _ => rfl))) (nomark _)))), ?_⟩
    exact ⟨_, rfl, p, _, _, _, rfl, rfl, SqT.of e1, rfl, _, rfl, q, _, _, _, rfl, rfl, SqT.of e2, rfl, _, _, rfl, rfl, h1.w h4, _, rfl, q, _, _, _, rfl, rfl, SqT.of e2, rfl, _, rfl, p, _, _, _, rfl, rfl, SqT.of e1, rfl, _, _, rfl, rfl, h3.w h2, _, _, rfl, rfl, k⟩
abbrev s__law_plus : Stmt := top 19
theorem sc__law_plus : FnScope ["_law_a", "_law_b", "_law_sign"] ["_law_a", "_law_b", "_law_sign"] (defScope s__law_plus) := ⟨rfl, rfl, rfl, by decide +kernel, rfl, by decide +kernel, by decide +kernel⟩
def spLPlus : Sp := fun vs H Q _ => ∃ (p q : Addr) (a b c d g : Int), vs = [.ref p, .ref q, .int g] ∧ H p = some (.tup [.int a, .int b]) ∧ H q = some (.tup [.int c, .int d]) ∧ Bd 500 a ∧ Bd 500 b ∧ Bd 500 c ∧ Bd 500 d ∧ Bd 1 g ∧ b * d ≠ 0 ∧
  ∀ r, H r = none → Q (.ref r) (upd H r (.tup [.int (nT (a * d + g * c * b) (b * d)), .int (nL (a * d + g * c * b) (b * d))]))
theorem ok_lplus {f : Addr} {fd : FuncData} (F : FnP K "_law_plus" "_law_plus" s__law_plus f fd) (M__law_number : Cal P w K mg base CX0 1 "_law_number" ["_law_top", "_law_low"] [] spLNum) : FnOk P w K mg base CX0 2 f fd ["_law_a", "_law_b", "_law_sign"] spLPlus := by
  refine F.ok sc__law_plus (fun vs H Q E h => ?_) (fun cdv A outer s H vs Q E hr h => ?_)
  · obtain ⟨p, q, a, b, c, d, g, rfl, _⟩ := h
    rfl
  · obtain ⟨p, q, a, b, c, d, g, rfl, e1, e2, h1, h2, h3, h4, h5, hn, k⟩ := h
    refine ⟨_, PSs.nox (pss_one (ps_ret (pe_fn M__law_number (hr.mono (by decide)) pass0 (pa_cons (pe_op op_add (pe_op op_mulW (pe_ix ix_tup (pv 0) pe_int (fun _ _ => rfl)) (pe_ix ix_tup (pv 1) pe_int (fun _ _ => rfl))) (pe_op op_mulW (pe_op op_mulW (pv 2) (pe_ix ix_tup (pv 1) pe_int (fun _ _ => rfl))) (pe_ix ix_tup (pv 0) pe_int (fun _ _ => rfl)))) (pa_cons (pe_op op_mulW (pe_ix ix_tup (pv 0) pe_int (fun _ _ => rfl)) (pe_ix ix_tup (pv 1) pe_int (fun _ _ => rfl))) pa_nil))))), ?_⟩
    exact ⟨_, rfl, p, _, _, _, rfl, rfl, SqT.of e1, rfl, _, rfl, q, _, _, _, rfl, rfl, SqT.of e2, rfl, _, _, rfl, rfl, h1.w h4, _, rfl, _, rfl, q, _, _, _, rfl, rfl, SqT.of e2, rfl, _, _, rfl, rfl, h5.w h3, _, rfl, p, _, _, _, rfl, rfl, SqT.of e1, rfl, _, _, rfl, rfl, (h5.mul h3).w h2, _, _, rfl, rfl,
      _, rfl, p, _, _, _, rfl, rfl, SqT.of e1, rfl, _, rfl, q, _, _, _, rfl, rfl, SqT.of e2, rfl, _, _, rfl, rfl, h2.w h4, _, _, rfl, (h2.mul h4).mono (by decide), hn, k⟩
end
end RS

set_option maxRecDepth 100000
set_option maxHeartbeats 4000000
namespace RS
open PySem PySem.Spec PyProof.Rows L2 NdefX He
section
variable {P : Program} {w : World} {K : PySem.W.Frag} {mg : Str → Option Value} {base : Heap} {C_ScaleError C_BadNumber : Addr}
abbrev s__law_whole : Stmt := top 20
theorem sc__law_whole : FnScope ["_law_pen_here", "_law_size"] ["_law_pen_here"] (defScope s__law_whole) := ⟨rfl, rfl, rfl, by decide +kernel, rfl, by decide +kernel, by decide +kernel⟩
def spWh : Sp := fun vs H Q _ => ∃ (p c : Addr) (b : Nat), vs = [.ref p] ∧ Pen H p c (b + 3) ∧ ∀ x H', Bd 200 x → Pen H' p c b → Sav p H H' → Q (.int x) H'
theorem ok_whole {f : Addr} {fd : FuncData} (F : FnP K "_law_whole" "_law_whole" s__law_whole f fd) (M__law_draw : Cal P w K mg base CX0 1 "_law_draw" ["_law_pen_here", "_law_many"] [] spDraw) : FnOk P w K mg base CX0 2 f fd ["_law_pen_here"] spWh := by
  refine F.ok sc__law_whole (fun vs H Q E h => ?_) (fun cdv A outer s H vs Q E hr h => ?_)
  · obtain ⟨p, c, b, rfl, _⟩ := h
    rfl
  · obtain ⟨p, c, b, rfl, P0, k⟩ := h
    refine ⟨_, PSs.nox (pss_cons (ps_set (i := 1) sc__law_whole.nd rfl (by first | exact Or.inl rfl | exact Or.inr rfl) (pe_ix ix_list (pe_lst (pa_cons pe_int (pa_cons pe_int (pa_cons (pe_op op_pow pe_int pe_int) (pa_cons (pe_op op_pow pe_int pe_int) pa_nil))))) (pe_fn M__law_draw (hr.mono (by decide)) pass0 (pa_cons (pv 0) (pa_cons pe_int pa_nil))) (fun _ _ => rfl)))
      (pss_one (ps_ret (pe_op op_mulW (pe_op op_sub pe_int (pe_op op_mulW pe_int (pe_fn M__law_draw (hr.mono (by decide)) pass0 (pa_cons (pv 0) (pa_cons pe_int pa_nil))))) (pe_fn M__law_draw (hr.mono (by decide)) pass0 (pa_cons (pv 0) (pa_cons (pv 1) pa_nil))))))), ?_⟩
    refine ⟨_, _, rfl, rfl, ⟨by decide, by decide, by decide⟩, _, _, rfl, rfl, ⟨by decide, by decide, by decide⟩, by show 4 ≤ sizeLine; rw [sizeLine_eq]; decide, fun l hl => ?_⟩
    refine ⟨_, rfl, p, c, 4, b + 2, rfl, by decide, by decide +kernel, P0.new hl, fun d1 H1 a1 b1 P1 s1 => ?_⟩
    have hl1 := s1.at (P0.fresh_ne hl) upd_same
    have hm : ∃ m, atI [V.int 3, V.int 12, V.int (10 ^ 6), V.int (10 ^ 60)] d1 = some (.int m) ∧ 0 < m ∧ Bd 200 m := by
      have hd : d1 = 0 ∨ d1 = 1 ∨ d1 = 2 ∨ d1 = 3 := by omega
      rcases hd with rfl | rfl | rfl | rfl
      · exact ⟨3, rfl, by decide, by unfold Bd; decide⟩
      · exact ⟨12, rfl, by decide, by unfold Bd; decide⟩
      · exact ⟨10 ^ 6, rfl, by decide, by unfold Bd; decide⟩
      · exact ⟨10 ^ 60, rfl, by decide, by unfold Bd; decide⟩
    obtain ⟨m, hm0, hm1, hm2⟩ := hm
    refine ⟨l, _, _, _, rfl, rfl, SqL.of hl1, hm0, ?_⟩
    refine ⟨_, rfl, p, c, 2, b + 1, rfl, by decide, by decide +kernel, P1, fun d2 H2 a2 b2 P2 s2 => ?_⟩
    have hd2 : d2 = 0 ∨ d2 = 1 := by omega
    have e1 : Bd 2 d2 := by unfold Bd; omega
    have e2 : Bd 1 (1 - 2 * d2) := by unfold Bd; omega
    refine ⟨_, _, rfl, rfl, (show Bd 2 (2 : Int) by unfold Bd; decide).w e1, _, _, rfl, rfl, _, rfl, _, rfl, p, c, m, b, rfl, hm1, Bd.log hm2, P2, fun d3 H3 a3 b3 P3 s3 => ?_⟩
    have e3 : Bd 200 d3 := by unfold Bd at hm2 ⊢; omega
    refine ⟨_, _, rfl, rfl, e2.w e3, k _ _ ?_ P3 ((Sav.new hl).trans (s1.trans (s2.trans s3)))⟩
    unfold Bd at e3 ⊢
    rcases hd2 with rfl | rfl
    · simpa using e3
    · simpa using e3
theorem NumV.old {H H' : Hp} {v : V} {b : Bool} (x : NumV K H v b) (k : Same H H') (ty : ∀ n, TyX K H v (.type n) → TyX K H' v (.type n)) (wh : ∀ u c, WhV K H u c → WhV K H' u c) : NumV K H' v b := by
  cases x with
  | no t kk => exact .no (ty _ t) kk
  | len e h => exact .len (k _ _ e) h
  | bad e x y h => exact .bad (k _ _ e) (wh _ _ x) (wh _ _ y) h
  | num e => exact .num (k _ _ e)
/-- at t: a value and what is_number says of it -/
inductive Itm (K : Frg) (H : Hp) (t : Addr) : Prop
  | sc {v : V} {n : String} : H t = some (.tup [v, .bl false]) → (∀ H', TyX K H' v (.type n)) → kitB n "tuple" = some false → Itm K H t
  | li {a : Addr} {xs : List V} : H t = some (.tup [.ref a, .bl false]) → H a = some (.lst xs) → Itm K H t
  | len {a : Addr} {xs : List V} : H t = some (.tup [.ref a, .bl false]) → H a = some (.tup xs) → xs.length ≠ 2 → Itm K H t
  | bad {a : Addr} {x y : V} {bx b2 : Bool} : H t = some (.tup [.ref a, .bl false]) → H a = some (.tup [x, y]) → (∀ H', WhV K H' x bx) → (∀ H', WhV K H' y b2) → (bx && b2) = false → Itm K H t
  | num {a : Addr} {x y : Int} {b : Bool} : H t = some (.tup [.ref a, .bl b]) → H a = some (.tup [.int x, .int y]) → b = (decide (1 ≤ y) && decide (nG x y = 1)) → Itm K H t
theorem Itm.old {H H' : Hp} {t : Addr} (x : Itm K H t) (k : Same H H') : Itm K H' t := by
  cases x with
  | sc e ty kk => exact .sc (k _ _ e) ty kk
  | li e e2 => exact .li (k _ _ e) (k _ _ e2)
  | len e e2 h => exact .len (k _ _ e) (k _ _ e2) h
  | bad e e2 x y h => exact .bad (k _ _ e) (k _ _ e2) x y h
  | num e e2 h => exact .num (k _ _ e) (k _ _ e2) h
theorem Itm.sav {H H' : Hp} {p c t : Addr} {n : Nat} (x : Itm K H t) (P : Pen H p c n) (k : Sav p H H') : Itm K H' t := by
  cases x with
  | sc e ty kk => exact .sc (k.at (P.ne e fun _ z => by cases z) e) ty kk
  | li e e2 => exact .li (k.at (P.ne e fun _ z => by cases z) e) (k.at (P.ne e2 fun _ z => by cases z) e2)
  | len e e2 h => exact .len (k.at (P.ne e fun _ z => by cases z) e) (k.at (P.ne e2 fun _ z => by cases z) e2) h
  | bad e e2 x y h => exact .bad (k.at (P.ne e fun _ z => by cases z) e) (k.at (P.ne e2 fun _ z => by cases z) e2) x y h
  | num e e2 h => exact .num (k.at (P.ne e fun _ z => by cases z) e) (k.at (P.ne e2 fun _ z => by cases z) e2) h
theorem Itm.get {H : Hp} {t : Addr} (x : Itm K H t) : ∃ v b, H t = some (.tup [v, .bl b]) ∧ NumV K H v b := by
  cases x with
  | sc e ty kk => exact ⟨_, _, e, .no (ty _) kk⟩
  | li e e2 => exact ⟨_, _, e, .no (.base (.lst e2)) (by decide +kernel)⟩
  | len e e2 h => exact ⟨_, _, e, .len e2 h⟩
  | bad e e2 x y h => exact ⟨_, _, e, .bad e2 (x _) (y _) h⟩
  | num e e2 h => exact ⟨_, _, e, h ▸ .num e2⟩
/-- the items laid so far -/
def Its (K : Frg) (H : Hp) (ts : List Addr) : Prop := ∀ t ∈ ts, Itm K H t
theorem Its.nil {H : Hp} : Its K H [] := fun t h => by cases h
theorem Its.snoc {H H' : Hp} {ts : List Addr} {t : Addr} (x : Its K H ts) (k : Same H H') (y : Itm K H' t) : Its K H' (ts ++ [t]) := fun u hu => by
  rcases List.mem_append.mp hu with h | h
  · exact (x u h).old k
  · obtain rfl := List.mem_singleton.mp h
    exact y
theorem Its.atI {H : Hp} {ts : List Addr} {d : Int} (x : Its K H ts) (h0 : 0 ≤ d) (h1 : d < ts.length) : ∃ t, atI (ts.map V.ref) d = some (.ref t) ∧ Itm K H t := by
  obtain ⟨n, rfl⟩ : ∃ n : Nat, d = (n : Int) := ⟨d.toNat, by omega⟩
  have hn : n < ts.length := by omega
  exact ⟨ts[n], atI_nat (by rw [List.getElem?_map, List.getElem?_eq_getElem hn]; rfl), x _ (List.getElem_mem hn)⟩
structure It2 (K : Frg) (H0 H : Hp) (ts : List Addr) : Prop where
  s : Same H0 H
  i : Its K H ts
theorem It2.snoc {H0 H H' : Hp} {ts : List Addr} {t : Addr} (x : It2 K H0 H ts) (k : Same H H') (y : Itm K H' t) : It2 K H0 H' (ts ++ [t]) := ⟨x.s.trans k, x.i.snoc k y⟩
theorem same2 {H : Hp} {p q : Addr} {o u : HO} (hp : H p = none) (hq : (upd H p o) q = none) : Same H (upd (upd H p o) q u) := (Same.new hp).trans (Same.new hq)
theorem nG_mul {x y m : Int} (h : nG x y = 1) (hm : 2 ≤ m) : nG (x * m) (y * m) ≠ 1 := by
  unfold nG at *
  rw [Int.gcd_mul_right]
  have e : Int.gcd x y = 1 := by omega
  rw [e]
  omega
theorem nG_zero {m : Int} (hm : 2 ≤ m) : nG 0 m ≠ 1 := by
  unfold nG
  rw [Int.gcd_zero_left]
  omega
theorem nG_01 : nG 0 1 = 1 := by decide
abbrev s__law_other : Stmt := top 21
theorem sc__law_other : FnScope ["_law_pen_here", "_law_pair", "_law_many", "_law_values", "_law_top", "_law_low"] ["_law_pen_here", "_law_pair"] (defScope s__law_other) := ⟨rfl, rfl, rfl, by decide +kernel, rfl, by decide +kernel, by decide +kernel⟩
def spOth (K : Frg) : Sp := fun vs H Q _ => ∃ (p c q : Addr) (n : Nat) (x y : Int), vs = [.ref p, .ref q] ∧ Pen H p c (n + 2) ∧ H q = some (.tup [.int x, .int y]) ∧ Bd 500 x ∧ Bd 500 y ∧ 1 ≤ y ∧ nG x y = 1 ∧
  ∀ t H', Itm K H' t → Pen H' p c n → Sav p H H' → Q (.ref t) H'
theorem ok_other {f : Addr} {fd : FuncData} (F : FnP K "_law_other" "_law_other" s__law_other f fd) (T : TNum mg) (bs : mg "str" = none) (M__law_draw : Cal P w K mg base CX0 1 "_law_draw" ["_law_pen_here", "_law_many"] [] spDraw) : FnOk P w K mg base CX0 2 f fd ["_law_pen_here", "_law_pair"] (spOth K) := by
  refine F.ok sc__law_other (fun vs H Q E h => ?_) (fun cdv A outer s H vs Q E hr h => ?_)
  · obtain ⟨p, c, q, n, x, y, rfl, _⟩ := h
    rfl
  · obtain ⟨p, c, q, n, x, y, rfl, P0, hq, hx, hy, y1, hg, k⟩ := h
    refine ⟨_, PSs.nox (pss_cons (ps_asg (pv 1) (pg_tup (by rfl) (pgs_cons (pg_name (i := 4) sc__law_other.nd rfl (by first | exact Or.inl rfl | exact Or.inr rfl)) (pgs_cons (pg_name (i := 5) sc__law_other.nd rfl (by first | exact Or.inl rfl | exact Or.inr rfl)) pgs_nil))))
      (pss_cons (ps_set (i := 2) sc__law_other.nd rfl (by first | exact Or.inl rfl | exact Or.inr rfl) (pe_op op_add pe_int (pe_fn M__law_draw (hr.mono (by decide)) pass0 (pa_cons (pv 0) (pa_cons pe_int pa_nil)))))
      (pss_cons (ps_set (i := 3) sc__law_other.nd rfl (by first | exact Or.inl rfl | exact Or.inr rfl) (pe_lst (pa_cons (pe_tup (pa_cons (pe_tup (pa_cons (pv 4) (pa_cons (pv 5) pa_nil))) (pa_cons pe_bl pa_nil))) (pa_cons (pe_tup (pa_cons (pe_tup (pa_cons (pe_op op_mulW (pv 4) (pv 2)) (pa_cons (pe_op op_mulW (pv 5) (pv 2)) pa_nil))) (pa_cons pe_bl pa_nil))) (pa_cons (pe_tup (pa_cons (pe_lst (pa_cons (pv 4) (pa_cons (pv 5) pa_nil))) (pa_cons pe_bl pa_nil))) (pa_cons (pe_tup (pa_cons (pe_tup (pa_cons (pv 4) (pa_cons (pe_un un_neg (pv 5)) pa_nil))) (pa_cons pe_bl pa_nil))) (pa_cons (pe_tup (pa_cons (pe_tup (pa_cons (pv 4) (pa_cons pe_int pa_nil))) (pa_cons pe_bl pa_nil))) (pa_cons (pe_tup (pa_cons (pe_tup (pa_cons (pv 4) (pa_cons (pv 5) (pa_cons pe_int pa_nil)))) (pa_cons pe_bl pa_nil))) (pa_cons (pe_tup (pa_cons (pe_callTy call_str_int (by rfl) bs (by decide +kernel) (pa_cons (pv 4) pa_nil)) (pa_cons pe_bl pa_nil))) (pa_cons (pe_tup (pa_cons (pe_tup (pa_cons pe_bl (pa_cons (pv 5) pa_nil))) (pa_cons pe_bl pa_nil))) (pa_cons (pe_tup (pa_cons (pe_tup (pa_cons (pv 4) (pa_cons pe_bl pa_nil))) (pa_cons pe_bl pa_nil))) (pa_cons (pe_tup (pa_cons (pe_tup (pa_cons pe_int (pa_cons (pv 2) pa_nil))) (pa_cons pe_bl pa_nil))) (pa_cons (pe_tup (pa_cons (pe_tup (pa_cons pe_int (pa_cons pe_int pa_nil))) (pa_cons pe_bl pa_nil))) (pa_cons (pe_tup (pa_cons (pv 4) (pa_cons pe_bl pa_nil))) (pa_cons (pe_tup (pa_cons pe_non (pa_cons pe_bl pa_nil))) (pa_cons (pe_tup (pa_cons (pe_tup pa_nil) (pa_cons pe_bl pa_nil))) (pa_cons (pe_tup (pa_cons (pe_tup (pa_cons (pe_callTy call_str_int (by rfl) bs (by decide +kernel) (pa_cons (pv 4) pa_nil)) (pa_cons (pv 5) pa_nil))) (pa_cons pe_bl pa_nil))) pa_nil)))))))))))))))))
      (pss_one (ps_ret (pe_ix ix_list (pv 3) (pe_fn M__law_draw (hr.mono (by decide)) pass0 (pa_cons (pv 0) (pa_cons pe_int pa_nil))) (fun _ _ => rfl))))))), ?_⟩
    refine ⟨_, rfl, q, _, rfl, SqT.of hq, rfl, _, _, rfl, _, _, rfl, rfl, ?_⟩
    refine ⟨_, rfl, p, c, 9, n + 1, rfl, by decide, by decide +kernel, P0, fun d1 H1 a1 b1 P1 s1 => ⟨_, _, rfl, rfl, ?_⟩⟩
    have hm : Bd 5 (2 + d1) := by unfold Bd; omega
    have hm2 : 2 ≤ 2 + d1 := by omega
    have z0 : It2 K H1 H1 [] := ⟨Same.refl _, Its.nil⟩
    have s2 : ∀ {n : Nat}, n ≤ 15 → n ≤ sizeLine := fun h => by rw [sizeLine_eq]; omega
    have xl : x.natAbs.log2 < 1920 := Nat.lt_of_lt_of_le (PySem.Flt.log2_lt_of (by decide) hx) (by decide)
    refine ⟨_, rfl, _, rfl, s2 (by simp), fun p1 h1 => ⟨s2 (by simp), fun t1 g1 => ?_⟩⟩
    have z1 := z0.snoc (same2 (o := .tup [.int x, .int y]) (u := .tup [.ref p1, .bl true]) h1 g1) (t := t1) (.num (b := true) upd_same (upd_old g1 upd_same) (by rw [hg, decide_eq_true y1, decide_eq_true rfl, Bool.and_true]))
    refine ⟨_, rfl, _, rfl, _, _, rfl, rfl, hx.w hm, _, rfl, _, rfl, _, _, rfl, rfl, hy.w hm, s2 (by simp), fun p2 h2 => ⟨s2 (by simp), fun t2 g2 => ?_⟩⟩
    have z2 := z1.snoc (same2 (o := .tup [.int (x * (2 + d1)), .int (y * (2 + d1))]) (u := .tup [.ref p2, .bl false]) h2 g2) (t := t2) (.num (b := false) upd_same (upd_old g2 upd_same) (by rw [decide_eq_false (nG_mul hg hm2), Bool.and_false]))
    refine ⟨_, rfl, _, rfl, s2 (by simp), fun p3 h3 => ⟨s2 (by simp), fun t3 g3 => ?_⟩⟩
    have z3 := z2.snoc (same2 (o := .lst [.int x, .int y]) (u := .tup [.ref p3, .bl false]) h3 g3) (t := t3) (.li upd_same (upd_old g3 upd_same))
    refine ⟨_, rfl, _, rfl, _, rfl, s2 (by simp), fun p4 h4 => ⟨s2 (by simp), fun t4 g4 => ?_⟩⟩
    have z4 := z3.snoc (same2 (o := .tup [.int x, .int (-y)]) (u := .tup [.ref p4, .bl false]) h4 g4) (t := t4) (.num (b := false) upd_same (upd_old g4 upd_same) (by rw [decide_eq_false (show ¬ 1 ≤ -y by omega), Bool.false_and]))
    refine ⟨_, rfl, s2 (by simp), fun p5 h5 => ⟨s2 (by simp), fun t5 g5 => ?_⟩⟩
    have z5 := z4.snoc (same2 (o := .tup [.int x, .int 0]) (u := .tup [.ref p5, .bl false]) h5 g5) (t := t5) (.num (b := false) upd_same (upd_old g5 upd_same) (by rw [decide_eq_false (show ¬ 1 ≤ (0 : Int) by omega), Bool.false_and]))
    refine ⟨_, rfl, _, rfl, s2 (by simp), fun p6 h6 => ⟨s2 (by simp), fun t6 g6 => ?_⟩⟩
    have z6 := z5.snoc (same2 (o := .tup [.int x, .int y, .int 1]) (u := .tup [.ref p6, .bl false]) h6 g6) (t := t6) (.len upd_same (upd_old g6 upd_same) (by simp))
    refine ⟨_, rfl, _, rfl, xl, s2 (by simp), fun t7 g7 => ?_⟩
    have z7 := z6.snoc (Same.new (o := .tup [.str (toString x), .bl false]) g7) (t := t7) (.sc upd_same (fun _ => .base (.str _)) (by decide +kernel))
    refine ⟨_, rfl, s2 (by simp), fun p8 h8 => ⟨s2 (by simp), fun t8 g8 => ?_⟩⟩
    have z8 := z7.snoc (same2 (o := .tup [.bl true, .int y]) (u := .tup [.ref p8, .bl false]) h8 g8) (t := t8) (.bad upd_same (upd_old g8 upd_same) (fun _ => .bl _) (fun _ => .int _) rfl)
    refine ⟨_, rfl, s2 (by simp), fun p9 h9 => ⟨s2 (by simp), fun t9 g9 => ?_⟩⟩
    have z9 := z8.snoc (same2 (o := .tup [.int x, .bl true]) (u := .tup [.ref p9, .bl false]) h9 g9) (t := t9) (.bad upd_same (upd_old g9 upd_same) (fun _ => .int _) (fun _ => .bl _) rfl)
    refine ⟨_, rfl, s2 (by simp), fun p10 h10 => ⟨s2 (by simp), fun t10 g10 => ?_⟩⟩
    have z10 := z9.snoc (same2 (o := .tup [.int 0, .int (2 + d1)]) (u := .tup [.ref p10, .bl false]) h10 g10) (t := t10) (.num (b := false) upd_same (upd_old g10 upd_same) (by rw [decide_eq_false (nG_zero hm2), Bool.and_false]))
    refine ⟨s2 (by simp), fun p11 h11 => ⟨s2 (by simp), fun t11 g11 => ?_⟩⟩
    have z11 := z10.snoc (same2 (o := .tup [.int 0, .int 1]) (u := .tup [.ref p11, .bl true]) h11 g11) (t := t11) (.num (b := true) upd_same (upd_old g11 upd_same) (by rw [nG_01]; rfl))
    refine ⟨_, rfl, s2 (by simp), fun t12 g12 => ?_⟩
    have z12 := z11.snoc (Same.new (o := .tup [.int x, .bl false]) g12) (t := t12) (.sc upd_same (fun _ => .base (.int _)) (by decide +kernel))
    refine ⟨s2 (by simp), fun t13 g13 => ?_⟩
    have z13 := z12.snoc (Same.new (o := .tup [.non, .bl false]) g13) (t := t13) (.sc upd_same (fun _ => .base .non) (by decide +kernel))
    refine ⟨s2 (by simp), fun p14 h14 => ⟨s2 (by simp), fun t14 g14 => ?_⟩⟩
    have z14 := z13.snoc (same2 (o := .tup []) (u := .tup [.ref p14, .bl false]) h14 g14) (t := t14) (.len upd_same (upd_old g14 upd_same) (by simp))
    refine ⟨_, rfl, _, rfl, xl, _, rfl, s2 (by simp), fun p15 h15 => ⟨s2 (by simp), fun t15 g15 => ?_⟩⟩
    have z15 := z14.snoc (same2 (o := .tup [.str (toString x), .int y]) (u := .tup [.ref p15, .bl false]) h15 g15) (t := t15) (.bad upd_same (upd_old g15 upd_same) (fun _ => .str _) (fun _ => .int _) rfl)
    refine ⟨s2 (by simp), fun l hl => ?_⟩
    have S15 := z15.s
    have S16 := Same.trans S15 (Same.new (o := .lst [.ref t1, .ref t2, .ref t3, .ref t4, .ref t5, .ref t6, .ref t7, .ref t8, .ref t9, .ref t10, .ref t11, .ref t12, .ref t13, .ref t14, .ref t15]) hl)
    refine ⟨_, rfl, _, rfl, p, c, 15, n, rfl, by decide, by decide +kernel, P1.old S16, fun d2 H2 a2 b2 P2 s3 => ?_⟩
    obtain ⟨t, ht, hi⟩ := z15.i.atI (d := d2) a2 (by simpa using b2)
    exact ⟨l, _, _, _, rfl, rfl, SqL.of (s3.at ((P1.old S15).fresh_ne hl) upd_same), ht, k t H2 ((hi.old (Same.new (o := .lst [.ref t1, .ref t2, .ref t3, .ref t4, .ref t5, .ref t6, .ref t7, .ref t8, .ref t9, .ref t10, .ref t11, .ref t12, .ref t13, .ref t14, .ref t15]) hl)).sav (P1.old S16) s3) P2 (s1.trans ((Same.sav S16).trans s3))⟩
end
end RS

set_option maxRecDepth 100000
set_option maxHeartbeats 4000000
namespace RS
open PySem PySem.Spec PyProof.Rows L2 NdefX He
section
variable {P : Program} {w : World} {K : PySem.W.Frag} {mg : Str → Option Value} {base : Heap} {C_ScaleError C_BadNumber : Addr}
structure TRef (K : Frg) (mg : Str → Option Value) (S C : Addr) : Prop where
  b_isinstance : mg "isinstance" = none
  b_ValueError : mg "ValueError" = none
  b_bool : mg "bool" = none
  b_int : mg "int" = none
  b_range : mg "range" = none
  g_ScaleError : mg "ScaleError" = some (.ref S)
  ex : PySem.W.exmOne K (.ref C) (.ref C) = some true
  k1 : PySem.W.kitOne K (.ref C) (.ref S) = some true
  k2 : PySem.W.kitOne K (.ref C) (.type "ValueError") = some true
  nn : PySem.W.findIn K (.ref C) "number" = some none
theorem eq01 : PyData.eqv (.tuple [.int 0, .int 1]) (.tuple [.int 0, .int 1]) = true := by simp [PyData.eqv, PyData.eqvAll]
abbrev s__law_refused : Stmt := top 22
theorem sc__law_refused : FnScope ["_law_value", "_law_by", "e"] ["_law_value", "_law_by"] (defScope s__law_refused) := ⟨rfl, rfl, rfl, by decide +kernel, rfl, by decide +kernel, by decide +kernel⟩
def spRef : Sp := fun vs H Q _ => ∃ (p : Addr) (x y z : Int), vs = [.ref p, .int z] ∧ H p = some (.tup [.int x, .int y]) ∧ Bd 500 x ∧ Bd 500 y ∧ ∀ H', Same H H' → Q (.bl true) H'
theorem ok_refused {f : Addr} {fd : FuncData} (F : FnP K "_law_refused" "_law_refused" s__law_refused f fd) (T : TRef K mg C_ScaleError C_BadNumber) (M_BadNumber : Exk P w K mg base "BadNumber" C_BadNumber ["number"])
    (M_over : Cal P w K mg base (L2.CX P w) 4 "over" ["a", "b"] [] (spOver C_BadNumber)) (M_number : Cal P w K mg base (L2.CX P w) 3 "number" ["top", "low"] [] (spNum C_BadNumber)) : FnOk P w K mg base CX0 5 f fd ["_law_value", "_law_by"] spRef := by
  have n_BadNumber_number := T.nn
  refine F.ok sc__law_refused (fun vs H Q E h => ?_) (fun cdv A outer s H vs Q E hr h => ?_)
  · obtain ⟨p, x, y, z, rfl, _⟩ := h
    rfl
  · obtain ⟨p, x, y, z, rfl, hp, hx, hy, k⟩ := h
    refine ⟨_, (pss_cons (ps_try_as (i := 2) (Wout := (fun _ _ _ _ => False)) rfl rfl sc__law_refused.nd rfl rfl ⟨rfl, by decide, Or.inl M_BadNumber.g⟩ takes0 (fun W pn xe tk _ => (pss_cons (ps_expr (pe_fnS M_over (hr.mono (by decide)) (fun σ => passAt tk σ) (pa_cons (pv 0) (pa_cons (pe_tup (pa_cons pe_int (pa_cons pe_int pa_nil))) pa_nil))))
      (pss_one (ps_ret pe_bl)))) (fun a oe cls d pn hz hf => (pss_one (ps_if (PW.pt (pw_or (pt_cmpR (op_neDs (K := K) rfl hr.units) (pe_xf M_BadNumber.T.xf n_BadNumber_number hz hf (pv 2)) (pe_tup (pa_cons pe_int (pa_cons pe_int pa_nil))) (nomark _)) (pw_or1 (pt_not (pt_val (pe_callB (call_isX M_BadNumber.T.is hz hf) (by rfl) T.b_isinstance (by decide +kernel) (pa_cons (pv 2) (pa_cons (pe_glob (v := .ref C_ScaleError) rfl T.g_ScaleError rfl) pa_nil)))))))) (pss_one (ps_ret pe_bl)) pss_nil))))
      (pss_one (ps_try_as (i := 2) (Wout := (fun _ _ _ _ => False)) rfl rfl sc__law_refused.nd rfl rfl ⟨rfl, by decide, Or.inl M_BadNumber.g⟩ takes0 (fun W pn xe tk _ => (pss_cons (ps_expr (pe_fnS M_number (hr.mono (by decide)) (fun σ => passAt tk σ) (pa_cons (pv 1) (pa_cons pe_int pa_nil))))
      (pss_one (ps_ret pe_bl)))) (fun a oe cls d pn hz hf => (pss_one (ps_ret (pe_and (pe_cmpR (op_eqDs (K := K) rfl hr.units) (pe_xf M_BadNumber.T.xf n_BadNumber_number hz hf (pv 2)) pe_int (nomark _)) (pe_one (pe_callB (call_isX M_BadNumber.T.is hz hf) (by rfl) T.b_isinstance (by decide +kernel) (pa_cons (pv 2) (pa_cons (pe_bltn (v := .ty "ValueError") (u := .type "ValueError") (by rfl) T.b_ValueError (by decide +kernel) rfl) pa_nil))))))))))), ?_⟩
    refine ⟨_, rfl, by show 2 ≤ sizeLine; rw [sizeLine_eq]; decide, fun r hr0 => ?_⟩
    refine ⟨p, r, x, y, 0, 1, rfl, upd_old hr0 hp, upd_same, hx, hy, by unfold Bd; decide, by unfold Bd; decide, fun _ d hd => ?_, fun z => absurd rfl z⟩
    refine ⟨true, T.ex, fun _ a ha => ?_, fun z => by cases z⟩
    refine ⟨_, rfl, rfl, rfl, d, _, _, rfl, upd_same, rfl, by show 2 ≤ sizeLine; rw [sizeLine_eq]; decide, fun u hu => ?_⟩
    refine ⟨.tuple [.int 0, .int 1], .tuple [.int 0, .int 1], .tup (SqT.of (upd_old hu (upd_old hd upd_same))) (.cons (.int 0) (.cons (.int 1) .nil)), .tup (SqT.of upd_same) (.cons (.int 0) (.cons (.int 1) .nil)), by decide, by decide, _, rfl, ?_⟩
    rw [eq01]
    refine iteF ⟨_, rfl, rfl, fun dd e => by cases e; exact ⟨_, upd_old hu upd_same⟩, _, _, true, rfl, fun u r => r, T.k1, _, rfl, iteF ?_⟩
    -- the second try
    refine ⟨_, rfl, z, 0, rfl, by unfold Bd; decide, fun _ d2 hd2 => ?_, fun z => absurd rfl z⟩
    refine ⟨true, T.ex, fun _ a2 ha2 => ?_, fun z => by cases z⟩
    refine ⟨_, rfl, rfl, rfl, d2, _, _, rfl, upd_same, rfl, .int 0, .int 0, .int 0, .int 0, by decide, by decide, _, rfl, ?_⟩
    refine iteT ⟨_, rfl, rfl, fun dd e => by cases e; exact ⟨_, upd_same⟩, _, _, true, rfl, fun u r => r, T.k2, ?_⟩
    exact k _ (Same.trans (Same.new hr0) (Same.trans (Same.new hd) (Same.trans (Same.new hu) (Same.new hd2))))
end
end RS

set_option maxRecDepth 100000
set_option maxHeartbeats 4000000
namespace RS
open PySem PySem.Spec PyProof.Rows L2 NdefX He
/-! ### the mathematics of the law -/
theorem nP_dvd (a b : Int) : nP a b ∣ a ∧ nP a b ∣ b := by
  have h1 : nG a b ∣ a := Int.gcd_dvd_left a b
  have h2 : nG a b ∣ b := Int.gcd_dvd_right a b
  unfold nP
  split
  · exact ⟨Int.neg_dvd.mpr h1, Int.neg_dvd.mpr h2⟩
  · exact ⟨h1, h2⟩
theorem gcd_out {a b p x y : Int} (hx : a = p * x) (hy : b = p * y) : Int.gcd a b = p.natAbs * Int.gcd x y := by
  subst hx hy
  exact Int.gcd_mul_left ..
theorem nm_of {a b : Int} {k : Nat} (h : b ≠ 0) (ha : Bd k a) (hb : Bd k b) : Bd k (nT a b) ∧ Bd k (nL a b) ∧ 1 ≤ nL a b ∧ nG (nT a b) (nL a b) = 1 := by
  obtain ⟨⟨x, hx⟩, ⟨y, hy⟩⟩ := nP_dvd a b
  have h0 := nP_ne (a := a) h
  have e1 : nT a b = x := by
    unfold nT
    rw [show a.fdiv (nP a b) = (nP a b * x).fdiv (nP a b) by rw [← hx], Int.mul_fdiv_cancel_left _ h0]
  have e2 : nL a b = y := by
    unfold nL
    rw [show b.fdiv (nP a b) = (nP a b * y).fdiv (nP a b) by rw [← hy], Int.mul_fdiv_cancel_left _ h0]
  rw [e1, e2]
  have pos : 1 ≤ (nP a b).natAbs := by omega
  have le : ∀ z : Int, z.natAbs ≤ (nP a b * z).natAbs := fun z => by
    rw [Int.natAbs_mul]
    exact Nat.le_mul_of_pos_left _ pos
  refine ⟨Nat.lt_of_le_of_lt (by have := le x; rw [← hx] at this; exact this) ha, Nat.lt_of_le_of_lt (by have := le y; rw [← hy] at this; exact this) hb, ?_, ?_⟩
  · have g0 := nG_pos (a := a) h
    unfold nP at hy
    split at hy
    · rename_i hn
      by_cases q : 1 ≤ y
      · exact q
      · exfalso
        have : 0 ≤ nG a b * (-y) := Int.mul_nonneg (by omega) (by omega)
        rw [Int.mul_neg, ← Int.neg_mul] at this
        omega
    · rename_i hn
      by_cases q : 1 ≤ y
      · exact q
      · exfalso
        have : 0 ≤ nG a b * (-y) := Int.mul_nonneg (by omega) (by omega)
        rw [Int.mul_neg] at this
        have e : nG a b * y ≤ 0 := by omega
        omega
  · have e : Int.gcd a b = (nP a b).natAbs * Int.gcd x y := by
      exact gcd_out hx hy
    rw [nP_abs] at e
    have g0 : 0 < Int.gcd a b := Int.gcd_pos_of_ne_zero_right a h
    have e3 : Int.gcd x y = 1 := by
      have : Int.gcd a b * 1 = Int.gcd a b * Int.gcd x y := by omega
      exact (Nat.eq_of_mul_eq_mul_left g0 this).symm
    unfold nG
    rw [e3]
    rfl
theorem n_one (t : Int) : nT t 1 = t ∧ nL t 1 = 1 := by
  have e : nP t 1 = 1 := by
    unfold nP nG
    simp
  unfold nT nL
  rw [e]
  simp
theorem eqv_pair (a b : Int) : PyData.eqv (.tuple [.int a, .int b]) (.tuple [.int a, .int b]) = true := by simp [PyData.eqv, PyData.eqvAll]
theorem sh_pair (a b : Int) : SeqAt.shaped (.tuple [.int a, .int b]) = true := rfl
theorem dp_pair {K : Frg} {H : Hp} {p : Addr} {a b : Int} (e : H p = some (.tup [.int a, .int b])) : Dp K H (.ref p) (.tuple [.int a, .int b]) := .tup (SqT.of e) (.cons (.int a) (.cons (.int b) .nil))
theorem ne_zero {y v : Int} (h1 : 1 ≤ y) (h2 : 1 ≤ v) : y * v ≠ 0 := Int.mul_ne_zero (by omega) (by omega)
theorem cmp_self (z : Int) : cmpI z z = 0 := by simp [cmpI]
section
variable {P : Program} {w : World} {K : PySem.W.Frag} {mg : Str → Option Value} {base : Heap} {C_ScaleError C_BadNumber : Addr}
/-- two pairs != of equal pairs: no -/
theorem ne_pair {K : Frg} {H : Hp} {p q : Addr} {a b : Int} {Q : VK} (e1 : H p = some (.tup [.int a, .int b])) (e2 : H q = some (.tup [.int a, .int b])) (h : Q (.bl false) H) : rNeD K (.ref p) (.ref q) H Q :=
  ⟨_, _, dp_pair e1, dp_pair e2, sh_pair a b, sh_pair a b, by rw [eqv_pair]; exact h⟩
def spLaw (K : Frg) : Sp := fun vs H Q _ => ∃ (a : Addr) (ns : List Int), vs = [.ref a] ∧ SqL K H a (ns.map V.int) ∧ ∀ H', Q (.bl true) H'
abbrev s_law : Stmt := top 23
theorem sc_law : FnScope ["_law_script", "_law_pen_here", "_law_k", "_law_lows", "_law_like", "_law_tops", "_law_many", "_law_a", "_law_b", "_law_value", "_law_due", "_law_low"] ["_law_script"] (defScope s_law) := ⟨rfl, rfl, rfl, by decide +kernel, rfl, by decide +kernel, by decide +kernel⟩
theorem ok_law {f : Addr} {fd : FuncData} (F : FnP K "law" "law" s_law f fd) (T : TRef K mg C_ScaleError C_BadNumber) (M__law_pen : Cal P w K mg base CX0 1 "_law_pen" ["_law_script"] [] (spPen K))
    (M__law_draw : Cal P w K mg base CX0 1 "_law_draw" ["_law_pen_here", "_law_many"] [] spDraw) (M__law_whole : Cal P w K mg base CX0 2 "_law_whole" ["_law_pen_here"] [] spWh)
    (M_number2 : Cal P w K mg base (L2.CX P w) 3 "number" ["top", "low"] [] (spNum C_BadNumber)) (M_number1 : Cal P w K mg base (L2.CX P w) 3 "number" ["top", "low"] [.int 1] (spNum C_BadNumber))
    (M__law_number : Cal P w K mg base CX0 1 "_law_number" ["_law_top", "_law_low"] [] spLNum) (M_is_number : Cal P w K mg base CX0 2 "is_number" ["value"] [] (spIsNum K))
    (M_plus : Cal P w K mg base CX0 4 "plus" ["a", "b"] [] sp_plus) (M_minus : Cal P w K mg base CX0 4 "minus" ["a", "b"] [] sp_minus) (M_times : Cal P w K mg base CX0 4 "times" ["a", "b"] [] sp_times)
    (M_over : Cal P w K mg base (L2.CX P w) 4 "over" ["a", "b"] [] (spOver C_BadNumber)) (M_compared : Cal P w K mg base CX0 1 "compared" ["a", "b"] [] spCmp)
    (M__law_below : Cal P w K mg base CX0 1 "_law_below" ["_law_a", "_law_b"] [] spBelow) (M__law_plus : Cal P w K mg base CX0 2 "_law_plus" ["_law_a", "_law_b", "_law_sign"] [] spLPlus)
    (M__law_other : Cal P w K mg base CX0 2 "_law_other" ["_law_pen_here", "_law_pair"] [] (spOth K)) (M__law_refused : Cal P w K mg base CX0 5 "_law_refused" ["_law_value", "_law_by"] [] spRef) :
    FnOk P w K mg base CX0 6 f fd ["_law_script"] (spLaw K) := by
  refine F.ok sc_law (fun vs H Q E h => ?_) (fun cdv A outer s H vs Q E hr h => ?_)
  · obtain ⟨a, ns, rfl, _⟩ := h
    rfl
  · obtain ⟨a0, ns, rfl, hS, k⟩ := h
    refine ⟨_, PSs.nox (pss_cons (ps_set (i := 1) sc_law.nd rfl (by first | exact Or.inl rfl | exact Or.inr rfl) (pe_fn M__law_pen (hr.mono (by decide)) pass0 (pa_cons (pv 0) pa_nil)))
      (pss_cons (ps_for PassesOwn.never rfl (pi_range1 (by rfl) T.b_range (pa_cons pe_int pa_nil)) (pg_name (i := 2) sc_law.nd rfl (by first | exact Or.inl rfl | exact Or.inr rfl)) (pss_cons (ps_par (i := 5) (j := 3) (by rfl) sc_law.nd rfl rfl (by decide) rfl rfl (pa_cons (pe_lst (pa_cons (pe_fn M__law_whole (hr.mono (by decide)) pass0 (pa_cons (pv 1) pa_nil)) (pa_cons (pe_fn M__law_whole (hr.mono (by decide)) pass0 (pa_cons (pv 1) pa_nil)) pa_nil))) (pa_cons (pe_lst (pa_cons (pe_fn M__law_whole (hr.mono (by decide)) pass0 (pa_cons (pv 1) pa_nil)) (pa_cons (pe_fn M__law_whole (hr.mono (by decide)) pass0 (pa_cons (pv 1) pa_nil)) pa_nil))) pa_nil)) (by rfl))
      (pss_cons (ps_setLc (i := 3) (own := [("_law_low", 11)]) (by rfl) sc_law.nd rfl rfl (sw_true rfl rfl rfl (by decide +kernel)) (pi_list (pv 3)) (blkOk_by (own := [("_law_low", 11)]) (N := ["_law_script", "_law_pen_here", "_law_k", "_law_lows", "_law_like", "_law_tops", "_law_many", "_law_a", "_law_b", "_law_value", "_law_due", "_law_low"]) (sc := defScope s_law) (by decide +kernel)) (fun _ _ _ _ _ => (pg_name (i := 11) sc_law.nd rfl (by first | exact Or.inl rfl | exact Or.inr rfl))) (fun _ _ _ _ _ => pts_nil) (fun _ _ _ _ _ => (pe_op op_add (pv 11) (pe_callTy call_int1 (by rfl) T.b_int (by decide +kernel) (pa_cons (pe_cmpR op_eq (pv 11) pe_int (nomark _)) pa_nil)))))
      (pss_cons (ps_set (i := 4) sc_law.nd rfl (by first | exact Or.inl rfl | exact Or.inr rfl) (pe_fn M__law_draw (hr.mono (by decide)) pass0 (pa_cons (pv 1) (pa_cons pe_int pa_nil))))
      (Evl.pss_cut (ps_if (pt_cmpR op_lt (pv 4) pe_int (nomark _)) (pss_cons (ps_set (i := 6) sc_law.nd rfl (by first | exact Or.inl rfl | exact Or.inr rfl) (pe_op op_add pe_int (pe_fn M__law_draw (hr.mono (by decide)) pass0 (pa_cons (pv 1) (pa_cons (pe_op op_pow pe_int pe_int) pa_nil)))))
      (pss_one (ps_asg (pe_tup (pa_cons (pe_op op_mulW (pe_op op_mulW (pe_op op_sub pe_int (pe_op op_mulW pe_int (pv 4))) (pv 6)) (pe_ix ix_list (pv 5) pe_int (fun _ _ => rfl))) (pa_cons (pe_op op_mulW (pv 6) (pe_ix ix_list (pv 3) pe_int (fun _ _ => rfl))) pa_nil))) (pg_tup (by rfl) (pgs_cons (pg_sub (pv 5) pe_int set_list) (pgs_cons (pg_sub (pv 3) pe_int set_list) pgs_nil)))))) pss_nil)
      (pss_cons (ps_par (i := 7) (j := 8) (by rfl) sc_law.nd rfl rfl (by decide) rfl rfl (pa_cons (pe_fn M_number2 (hr.mono (by decide)) passL (pa_cons (pe_ix ix_list (pv 5) pe_int (fun _ _ => rfl)) (pa_cons (pe_ix ix_list (pv 3) pe_int (fun _ _ => rfl)) pa_nil))) (pa_cons (pe_fn M_number2 (hr.mono (by decide)) passL (pa_cons (pe_ix ix_list (pv 5) pe_int (fun _ _ => rfl)) (pa_cons (pe_ix ix_list (pv 3) pe_int (fun _ _ => rfl)) pa_nil))) pa_nil)) (by rfl))
      (Evl.pss_cut (ps_if (PW.pt (pw_or (pt_cmpR (op_neD hr.units) (pv 7) (pe_fn M__law_number (hr.mono (by decide)) pass0 (pa_cons (pe_ix ix_list (pv 5) pe_int (fun _ _ => rfl)) (pa_cons (pe_ix ix_list (pv 3) pe_int (fun _ _ => rfl)) pa_nil))) (nomark _)) (pw_or1 (pt_cmpR (op_neD hr.units) (pv 8) (pe_fn M__law_number (hr.mono (by decide)) pass0 (pa_cons (pe_ix ix_list (pv 5) pe_int (fun _ _ => rfl)) (pa_cons (pe_ix ix_list (pv 3) pe_int (fun _ _ => rfl)) pa_nil))) (nomark _))))) (pss_one (ps_ret pe_bl)) pss_nil)
      (Evl.pss_cut (ps_if (PW.pt (pw_or (pt_cmpR (op_neD hr.units) (pe_fn M_number1 (hr.mono (by decide)) passL (pa_cons (pe_ix ix_list (pv 5) pe_int (fun _ _ => rfl)) pa_nil)) (pe_tup (pa_cons (pe_ix ix_list (pv 5) pe_int (fun _ _ => rfl)) (pa_cons pe_int pa_nil))) (nomark _)) (pw_or (pt_not (pt_val (pe_fn M_is_number (hr.mono (by decide)) pass0 (pa_cons (pv 7) pa_nil)))) (pw_or1 (pt_val (pe_callB call_isi (by rfl) T.b_isinstance (by decide +kernel) (pa_cons (pe_ix ix_tup (pv 7) pe_int (fun _ _ => rfl)) (pa_cons (pe_bltn (v := .ty "bool") (u := .type "bool") (by rfl) T.b_bool (by decide +kernel) rfl) pa_nil)))))))) (pss_one (ps_ret pe_bl)) pss_nil)
      (Evl.pss_cut (ps_if (PW.pt (pw_or (pt_cmpR (op_neD hr.units) (pe_fn M_plus (hr.mono (by decide)) pass0 (pa_cons (pv 7) (pa_cons (pv 8) pa_nil))) (pe_fn M__law_plus (hr.mono (by decide)) pass0 (pa_cons (pv 7) (pa_cons (pv 8) (pa_cons pe_int pa_nil)))) (nomark _)) (pw_or1 (pt_cmpR (op_neD hr.units) (pe_fn M_minus (hr.mono (by decide)) pass0 (pa_cons (pv 7) (pa_cons (pv 8) pa_nil))) (pe_fn M__law_plus (hr.mono (by decide)) pass0 (pa_cons (pv 7) (pa_cons (pv 8) (pa_cons (pe_un un_neg pe_int) pa_nil)))) (nomark _))))) (pss_one (ps_ret pe_bl)) pss_nil)
      (pss_cons (ps_if (pt_cmpR (op_neD hr.units) (pe_fn M_times (hr.mono (by decide)) pass0 (pa_cons (pv 7) (pa_cons (pv 8) pa_nil))) (pe_fn M__law_number (hr.mono (by decide)) pass0 (pa_cons (pe_op op_mulW (pe_ix ix_tup (pv 7) pe_int (fun _ _ => rfl)) (pe_ix ix_tup (pv 8) pe_int (fun _ _ => rfl))) (pa_cons (pe_op op_mulW (pe_ix ix_tup (pv 7) pe_int (fun _ _ => rfl)) (pe_ix ix_tup (pv 8) pe_int (fun _ _ => rfl))) pa_nil))) (nomark _)) (pss_one (ps_ret pe_bl)) pss_nil)
      (Evl.pss_cut (ps_if (PW.pt (pw_and (pt_cmpR op_ne (pe_ix ix_tup (pv 8) pe_int (fun _ _ => rfl)) pe_int (nomark _)) (pw_and1 (pt_cmpR (op_neD hr.units) (pe_fn M_over (hr.mono (by decide)) passL (pa_cons (pv 7) (pa_cons (pv 8) pa_nil))) (pe_fn M__law_number (hr.mono (by decide)) pass0 (pa_cons (pe_op op_mulW (pe_ix ix_tup (pv 7) pe_int (fun _ _ => rfl)) (pe_ix ix_tup (pv 8) pe_int (fun _ _ => rfl))) (pa_cons (pe_op op_mulW (pe_ix ix_tup (pv 7) pe_int (fun _ _ => rfl)) (pe_ix ix_tup (pv 8) pe_int (fun _ _ => rfl))) pa_nil))) (nomark _))))) (pss_one (ps_ret pe_bl)) pss_nil)
      (Evl.pss_cut (ps_if (PW.pt (pw_or (pt_cmpR op_ne (pe_fn M_compared (hr.mono (by decide)) pass0 (pa_cons (pv 7) (pa_cons (pv 8) pa_nil))) (pe_op op_sub (pe_callTy call_int1 (by rfl) T.b_int (by decide +kernel) (pa_cons (pe_fn M__law_below (hr.mono (by decide)) pass0 (pa_cons (pv 8) (pa_cons (pv 7) pa_nil))) pa_nil)) (pe_callTy call_int1 (by rfl) T.b_int (by decide +kernel) (pa_cons (pe_fn M__law_below (hr.mono (by decide)) pass0 (pa_cons (pv 7) (pa_cons (pv 8) pa_nil))) pa_nil))) (nomark _)) (pw_or1 (pt_cmpR op_ne (pe_fn M_compared (hr.mono (by decide)) pass0 (pa_cons (pv 7) (pa_cons (pv 7) pa_nil))) pe_int (nomark _))))) (pss_one (ps_ret pe_bl)) pss_nil)
      (pss_cons (ps_asg (pe_fn M__law_other (hr.mono (by decide)) pass0 (pa_cons (pv 1) (pa_cons (pv 7) pa_nil))) (pg_tup (by rfl) (pgs_cons (pg_name (i := 9) sc_law.nd rfl (by first | exact Or.inl rfl | exact Or.inr rfl)) (pgs_cons (pg_name (i := 10) sc_law.nd rfl (by first | exact Or.inl rfl | exact Or.inr rfl)) pgs_nil))))
      (pss_one (ps_if (PW.pt (pw_or (pt_cmpR op_ne (pe_fn M_is_number (hr.mono (by decide)) pass0 (pa_cons (pv 9) pa_nil)) (pv 10) (nomark _)) (pw_or1 (pt_not (pt_val (pe_fn M__law_refused (hr.mono (by decide)) pass0 (pa_cons (pv 7) (pa_cons (pe_ix ix_list (pv 5) pe_int (fun _ _ => rfl)) pa_nil)))))))) (pss_one (ps_ret pe_bl)) pss_nil)))))))))))))))
      (pss_one (ps_ret pe_bl)))), ?_⟩
    have sz : ∀ n : Nat, n ≤ 40 → n ≤ sizeLine := fun n h => by rw [sizeLine_eq]; omega
    refine ⟨_, rfl, a0, ns, rfl, hS, fun p c H1 s1 np nc P1 => ?_⟩
    refine ⟨_, rfl, by decide, by decide, for_range (lo := 0) (n := 4) (fun i σ H' => Pen H' p c (16 * (4 - i)) ∧ ∃ z2 z3 z4 z5 z6 z7 z8 z9 z10 z11, σ = [some (.ref a0), some (.ref p), z2, z3, z4, z5, z6, z7, z8, z9, z10, z11]) ⟨P1.mono (by decide), _, _, _, _, _, _, _, _, _, _, rfl⟩ ?_ (fun σ H' _ => k _)⟩
    rintro i σ H2 hi ⟨P2, z2, z3, z4, z5, z6, z7, z8, z9, z10, z11, rfl⟩
    have eb : 16 * (4 - i) = 16 * (4 - (i + 1)) + 16 := by omega
    rw [eb] at P2
    generalize 16 * (4 - (i + 1)) = n at P2
    -- tops, lows
    refine ⟨_, rfl, p, c, n + 13, rfl, P2, fun w0 H3 b0 P3 t3 => ⟨_, rfl, p, c, n + 10, rfl, P3, fun w1 H4 b1 P4 t4 => ⟨sz 2 (by decide), fun l5 hl5 => ?_⟩⟩⟩
    have P4' := P4.new (o := .lst [.int w0, .int w1]) hl5
    refine ⟨_, rfl, p, c, n + 7, rfl, P4', fun w2 H5 b2 P5 t5 => ⟨_, rfl, p, c, n + 4, rfl, P5, fun w3 H6 b3 P6 t6 => ⟨sz 2 (by decide), fun l3 hl3 => ⟨_, _, rfl, ?_⟩⟩⟩⟩
    have e5 : H6 l5 = some (.lst [.int w0, .int w1]) := t6.at (P4.fresh_ne hl5) (t5.at (P4.fresh_ne hl5) upd_same)
    have P7 := P6.new (o := .lst [.int w2, .int w3]) hl3
    have e5' : (upd H6 l3 (.lst [.int w2, .int w3])) l5 = some (.lst [.int w0, .int w1]) := upd_old hl3 e5
    have e3' : (upd H6 l3 (.lst [.int w2, .int w3])) l3 = some (.lst [.int w2, .int w3]) := upd_same
    have G7 : ∃ H7 : Hp, H7 = upd H6 l3 (.lst [.int w2, .int w3]) := ⟨_, rfl⟩
    obtain ⟨H7, g7⟩ := G7
    rw [← g7] at P7 e5' e3' ⊢
    have n5p := P4.fresh_ne hl5
    have n5c := P4.fresh_ne2 hl5
    clear g7 hl3 e5 P4' hl5
    -- lows without 0
    refine ⟨_, rfl, l3, rfl, ⟨_, SqL.of e3'⟩, fun D hD => lc_list (xs := [.int w2, .int w3]) (fun j H' => Same H7 H' ∧ ∃ cs : List Int, H' D = some (.lst (cs.map V.int)) ∧ cs.length = j ∧ ∀ z ∈ cs, z ≠ 0 ∧ Bd 201 z) ⟨Same.new hD, [], upd_same, rfl, fun z h => by cases h⟩ (fun j H' _ z => SqL.of (z.1 _ _ e3')) ?_ ?_⟩
    · rintro j x H' hj ⟨t', cs, hD', hc, hz⟩
      have hj2 : j < 2 := (List.getElem?_eq_some_iff.mp hj).1
      have hx : ∃ v : Int, x = .int v ∧ Bd 200 v := by
        obtain rfl | rfl : j = 0 ∨ j = 1 := by omega
        · exact ⟨w2, (Option.some.inj hj).symm, b2⟩
        · exact ⟨w3, (Option.some.inj hj).symm, b3⟩
      obtain ⟨v, rfl, hv⟩ := hx
      refine ⟨rfl, ?_⟩
      refine ⟨_, rfl, _, rfl, rfl, .inr ⟨_, rfl, _, _, rfl, rfl, _, hD', by rw [List.length_map, sizeLine_eq]; omega, Same.mut t' hD, cs ++ [v + (if decide (V.int v = V.int 0) = true then 1 else 0)], ?_, ?_, ?_⟩⟩
      · rw [upd_same, List.map_append]; rfl
      · simp [hc]
      · intro z hz'
        rcases List.mem_append.mp hz' with h | h
        · exact hz z h
        · obtain rfl := List.mem_singleton.mp h
          by_cases h0 : v = 0
          · subst h0
            rw [decide_eq_true rfl, if_pos rfl]
            exact ⟨by decide, by unfold Bd; decide⟩
          · rw [decide_eq_false fun z => h0 (V.int.inj z), if_neg (by decide), Int.add_zero]
            exact ⟨h0, hv.mono (by decide)⟩
    · rintro H8 ⟨t8, cs, hD8, hc, hz⟩
      obtain ⟨m0, m1, rfl⟩ : ∃ m0 m1, cs = [m0, m1] := match cs, hc with | [a, b], _ => ⟨a, b, rfl⟩
      obtain ⟨n0, c0⟩ := hz m0 (by simp)
      obtain ⟨n1, c1⟩ := hz m1 (by simp)
      have e5 := t8 _ _ e5'
      have P8 := P7.old t8
      have nD5 : l5 ≠ D := ne_of_none e5' hD
      have nDp := P7.fresh_ne hD
      have nDc := P7.fresh_ne2 hD
      -- alike
      refine ⟨_, rfl, p, c, 5, n + 3, rfl, by decide, by decide +kernel, P8, fun d H9 a9 b9 P9 t9 => ?_⟩
      have f5 := t9.at n5p e5
      have fD := t9.at nDp hD8
      clear t8 hD8 hc hz e5 P8 e5' e3' hD
      refine ⟨fun σ' H' => ∃ (t1 m1' : Int) (z2 z4 z6 z7 z8 z9 z10 z11 : Option V), σ' = [some (.ref a0), some (.ref p), z2, some (.ref D), z4, some (.ref l5), z6, z7, z8, z9, z10, z11] ∧ H' l5 = some (.lst [.int w0, .int t1]) ∧ H' D = some (.lst [.int m0, .int m1']) ∧ Bd 300 t1 ∧ Bd 300 m1' ∧ m1' ≠ 0 ∧ Pen H' p c (n + 2), ?_, ?_⟩
      · refine ⟨_, rfl, _, _, rfl, rfl, _, rfl, ?_⟩
        refine ite2 (fun hd => ?_) (fun _ => ⟨w1, m1, _, _, _, _, _, _, _, _, rfl, f5, fD, b1.mono (by decide), c1.mono (by decide), n1, P9.mono (by omega)⟩)
        have hd2 : d = 0 ∨ d = 1 := by have := of_decide_eq_true hd; omega
        have q1 : Bd 3 d := by unfold Bd; omega
        have q2 : Bd 1 (1 - 2 * d) := by unfold Bd; omega
        have q0 : Bd 2 (2 : Int) := by unfold Bd; decide
        refine ⟨_, rfl, _, _, rfl, rfl, ⟨by decide, by decide, by decide⟩, p, c, 10 ^ 9, n + 2, rfl, by decide, by decide +kernel, P9, fun d2 H10 a10 b10 P10 t10 => ⟨_, _, rfl, rfl, ?_⟩⟩
        have g5 := t10.at n5p f5
        have gD := t10.at nDp fD
        have q3 : Bd 31 (1 + d2) := by unfold Bd; omega
        have q3n : 1 + d2 ≠ 0 := by omega
        refine ⟨_, rfl, _, _, rfl, rfl, q0.w q1, _, _, rfl, rfl, _, rfl, _, _, rfl, rfl, q2.w q3, _, rfl, l5, _, _, _, rfl, rfl, SqL.of g5, rfl, _, _, rfl, rfl, (q2.mul q3).w b0, _, rfl, _, rfl, D, _, _, _, rfl, rfl, SqL.of gD, rfl, _, _, rfl, rfl, q3.w c0, sz 2 (by decide), fun t ht => ?_⟩
        refine ⟨t, _, rfl, SqT.of upd_same, rfl, _, _, rfl, _, rfl, l5, _, 1, 1, rfl, rfl, upd_old ht g5, rfl, _, _, rfl, _, rfl, D, [.int m0, .int m1], 1, 1, rfl, rfl, ?_, rfl, rfl, ?_⟩
        · rw [upd_ne nD5.symm]
          exact upd_old ht gD
        · refine ⟨(1 - 2 * d) * (1 + d2) * w0, (1 + d2) * m0, _, _, _, _, _, _, _, _, rfl, by rw [upd_ne nD5, upd_same]; rfl, by rw [upd_same]; rfl, ((q2.mul q3).mul b0).mono (by decide), (q3.mul c0).mono (by decide), Int.mul_ne_zero q3n n0, ((P10.new ht).mut n5p n5c).mut nDp nDc⟩
      · rintro σ' H11 ⟨t1, m1', z2, z4, z6, z7, z8, z9, z10, z11, rfl, e5, eD, bt, bm, nm, P11⟩
        clear f5 fD P9 t9 n1 c1
        refine ⟨_, rfl, l5, _, _, _, rfl, rfl, SqL.of e5, rfl, _, rfl, D, _, _, _, rfl, rfl, SqL.of eD, rfl, w0, m0, rfl, c0.mono (by decide), fun z => absurd z n0, fun _ q1 hq1 => ?_⟩
        refine ⟨_, rfl, l5, _, _, _, rfl, rfl, SqL.of (upd_old hq1 e5), rfl, _, rfl, D, _, _, _, rfl, rfl, SqL.of (upd_old hq1 eD), rfl, t1, m1', rfl, bm.mono (by decide), fun z => absurd z nm, fun _ q2 hq2 => ⟨_, _, rfl, ?_⟩⟩
        have f1 : (upd (upd H11 q1 (.tup [.int (nT w0 m0), .int (nL w0 m0)])) q2 (.tup [.int (nT t1 m1'), .int (nL t1 m1')])) q1 = some (.tup [.int (nT w0 m0), .int (nL w0 m0)]) := upd_old hq2 upd_same
        have f2 : (upd (upd H11 q1 (.tup [.int (nT w0 m0), .int (nL w0 m0)])) q2 (.tup [.int (nT t1 m1'), .int (nL t1 m1')])) q2 = some (.tup [.int (nT t1 m1'), .int (nL t1 m1')]) := upd_same
        have u12 : Same H11 (upd (upd H11 q1 (.tup [.int (nT w0 m0), .int (nL w0 m0)])) q2 (.tup [.int (nT t1 m1'), .int (nL t1 m1')])) := same2 hq1 hq2
        have G12 : ∃ H12 : Hp, H12 = upd (upd H11 q1 (.tup [.int (nT w0 m0), .int (nL w0 m0)])) q2 (.tup [.int (nT t1 m1'), .int (nL t1 m1')]) := ⟨_, rfl⟩
        obtain ⟨H12, g12⟩ := G12
        rw [← g12] at f1 f2 u12 ⊢
        clear g12
        have e5 := u12 _ _ e5
        have eD := u12 _ _ eD
        have P12 := P11.old u12
        obtain ⟨bx, by_, py, gx⟩ := nm_of n0 (b0.mono (j := 300) (by decide)) (c0.mono (j := 300) (by decide))
        obtain ⟨bu, bv, pv_, gu⟩ := nm_of nm bt bm
        clear u12 P11
        refine ⟨fun σ' H' => σ' = [some (.ref a0), some (.ref p), z2, some (.ref D), z4, some (.ref l5), z6, some (.ref q1), some (.ref q2), z9, z10, z11] ∧ Same H12 H', ?_, ?_⟩
        · refine ⟨_, rfl, _, rfl, l5, _, _, _, rfl, rfl, SqL.of e5, rfl, _, rfl, D, _, _, _, rfl, rfl, SqL.of eD, rfl, w0, m0, rfl, c0.mono (by decide), n0, fun r hx => ne_pair (upd_old hx f1) upd_same ⟨_, rfl, iteF ?_⟩⟩
          exact ⟨_, rfl, _, rfl, l5, _, _, _, rfl, rfl, SqL.of (upd_old hx e5), rfl, _, rfl, D, _, _, _, rfl, rfl, SqL.of (upd_old hx eD), rfl, t1, m1', rfl, bm.mono (by decide), nm, fun r2 hx2 => ne_pair (upd_old hx2 (upd_old hx f2)) upd_same ⟨_, rfl, iteF ⟨rfl, same2 hx hx2⟩⟩⟩
        · rintro σ' H13 ⟨rfl, s13⟩
          have bx := bx.mono (j := 500) (by decide)
          have by_ := by_.mono (j := 500) (by decide)
          have bu := bu.mono (j := 500) (by decide)
          have bv := bv.mono (j := 500) (by decide)
          generalize nT w0 m0 = x at *
          generalize nL w0 m0 = y at *
          generalize nT t1 m1' = u at *
          generalize nL t1 m1' = v at *
          have nz := ne_zero py pv_
          -- number of one, is_number
          refine ⟨fun σ' H' => σ' = [some (.ref a0), some (.ref p), z2, some (.ref D), z4, some (.ref l5), z6, some (.ref q1), some (.ref q2), z9, z10, z11] ∧ Same H12 H', ?_, ?_⟩
          · refine ⟨_, rfl, l5, _, _, _, rfl, rfl, SqL.of (s13 _ _ e5), rfl, w0, 1, rfl, by unfold Bd; decide, fun z => absurd z (by decide), fun _ r hx => ⟨_, rfl, l5, _, _, _, rfl, rfl, SqL.of (upd_old hx (s13 _ _ e5)), rfl, sz 2 (by decide), fun r2 hx2 => ?_⟩⟩
            have h1 := upd_old (u := .tup [.int w0, .int 1]) hx2 (upd_same (H := H13) (a := r) (o := .tup [.int (nT w0 1), .int (nL w0 1)]))
            rw [(n_one w0).1, (n_one w0).2] at h1
            rw [(n_one w0).1, (n_one w0).2] at hx2
            rw [(n_one w0).1, (n_one w0).2]
            have f1' := upd_old (u := .tup [.int w0, .int 1]) hx2 (upd_old (u := .tup [.int w0, .int 1]) hx (s13 _ _ f1))
            refine ne_pair h1 upd_same ⟨_, rfl, iteF ⟨_, rfl, .ref q1, true, rfl, ?_, _, rfl, iteF ?_⟩⟩
            · have z := NumV.num (K := K) f1'
              rw [decide_eq_true py, decide_eq_true gx] at z
              exact z
            · exact ⟨_, rfl, q1, _, _, _, rfl, rfl, SqT.of f1', rfl, _, _, _, _, false, rfl, .ty _, .base (.int _), kit_ty (show kitB "int" "bool" = some false by decide +kernel), _, rfl, iteF ⟨rfl, s13.trans (same2 hx hx2)⟩⟩
          · rintro σ' H14 ⟨rfl, s14⟩
            -- plus, minus
            refine ⟨fun σ' H' => σ' = [some (.ref a0), some (.ref p), z2, some (.ref D), z4, some (.ref l5), z6, some (.ref q1), some (.ref q2), z9, z10, z11] ∧ Same H12 H', ?_, ?_⟩
            · have f1' := s14 _ _ f1
              have f2' := s14 _ _ f2
              refine ⟨_, rfl, _, rfl, q1, q2, x, y, u, v, rfl, f1', f2', bx, by_, bu, bv, nz, fun r hx => ⟨_, rfl, _, rfl, q1, q2, x, y, u, v, 1, rfl, upd_old hx f1', upd_old hx f2', bx, by_, bu, bv, by unfold Bd; decide, nz, fun r2 hx2 => ?_⟩⟩
              rw [Int.one_mul]
              refine ne_pair (upd_old hx2 upd_same) upd_same ⟨_, rfl, iteF ?_⟩
              have f1' := upd_old (u := .tup [.int (nT (x * v + u * y) (y * v)), .int (nL (x * v + u * y) (y * v))]) hx2 (upd_old (u := .tup [.int (nT (x * v + u * y) (y * v)), .int (nL (x * v + u * y) (y * v))]) hx f1')
              have f2' := upd_old (u := .tup [.int (nT (x * v + u * y) (y * v)), .int (nL (x * v + u * y) (y * v))]) hx2 (upd_old (u := .tup [.int (nT (x * v + u * y) (y * v)), .int (nL (x * v + u * y) (y * v))]) hx f2')
              refine ⟨_, rfl, _, rfl, q1, q2, x, y, u, v, rfl, f1', f2', bx, by_, bu, bv, nz, fun r3 hx3 => ⟨_, rfl, _, rfl, _, rfl, q1, q2, x, y, u, v, -1, rfl, upd_old hx3 f1', upd_old hx3 f2', bx, by_, bu, bv, by unfold Bd; decide, nz, fun r4 hx4 => ?_⟩⟩
              rw [show x * v + -1 * u * y = x * v - u * y by rw [Int.neg_mul, Int.one_mul, Int.neg_mul, Int.sub_eq_add_neg]]
              exact ne_pair (upd_old hx4 upd_same) upd_same ⟨_, rfl, iteF ⟨rfl, s14.trans ((same2 hx hx2).trans (same2 hx3 hx4))⟩⟩
            · rintro σ' H15 ⟨rfl, s15⟩
              have f1' := s15 _ _ f1
              have f2' := s15 _ _ f2
              -- times
              refine ⟨_, rfl, _, rfl, q1, q2, x, y, u, v, rfl, f1', f2', bx, by_, bu, bv, nz, fun r hx => ⟨_, rfl, q1, _, _, _, rfl, rfl, SqT.of (upd_old hx f1'), rfl, _, rfl, q2, _, _, _, rfl, rfl, SqT.of (upd_old hx f2'), rfl, _, _, rfl, rfl, bx.w bu, _, rfl, q1, _, _, _, rfl, rfl, SqT.of (upd_old hx f1'), rfl, _, rfl, q2, _, _, _, rfl, rfl, SqT.of (upd_old hx f2'), rfl, _, _, rfl, rfl, by_.w bv, _, _, rfl, (by_.mul bv).mono (by decide), nz, fun r2 hx2 => ne_pair (upd_old hx2 upd_same) upd_same ⟨_, rfl, iteF ?_⟩⟩⟩
              have s16 := s15.trans (same2 (o := .tup [.int (nT (x * u) (y * v)), .int (nL (x * u) (y * v))]) (u := .tup [.int (nT (x * u) (y * v)), .int (nL (x * u) (y * v))]) hx hx2)
              have f1 := s16 _ _ f1
              have f2 := s16 _ _ f2
              have e5 := s16 _ _ e5
              have P16 := P12.old s16
              have G16 : ∃ H16 : Hp, H16 = upd (upd H15 r (.tup [.int (nT (x * u) (y * v)), .int (nL (x * u) (y * v))])) r2 (.tup [.int (nT (x * u) (y * v)), .int (nL (x * u) (y * v))]) := ⟨_, rfl⟩
              obtain ⟨H16, g16⟩ := G16
              rw [← g16] at f1 f2 e5 P16 ⊢
              clear g16 hx hx2 f1' f2' s16 s15 s14 s13 eD P12
              -- over
              refine ⟨fun σ' H' => σ' = [some (.ref a0), some (.ref p), z2, some (.ref D), z4, some (.ref l5), z6, some (.ref q1), some (.ref q2), z9, z10, z11] ∧ Same H16 H', ?_, ?_⟩
              · refine ⟨_, rfl, q2, _, _, _, rfl, rfl, SqT.of f2, rfl, rfl, _, rfl, ?_⟩
                by_cases hu : u = 0
                · rw [decide_eq_true (show V.int u = V.int 0 by rw [hu])]
                  exact iteF (iteF ⟨rfl, Same.refl _⟩)
                · rw [decide_eq_false fun z => hu (V.int.inj z)]
                  have nz2 : y * u ≠ 0 := Int.mul_ne_zero (by omega) hu
                  refine iteT ⟨_, rfl, _, rfl, q1, q2, x, y, u, v, rfl, f1, f2, bx, by_, bu, bv, fun z => absurd z hu, fun _ => ⟨nz2, fun r hx => ⟨_, rfl, q1, _, _, _, rfl, rfl, SqT.of (upd_old hx f1), rfl, _, rfl, q2, _, _, _, rfl, rfl, SqT.of (upd_old hx f2), rfl, _, _, rfl, rfl, bx.w bv, _, rfl, q1, _, _, _, rfl, rfl, SqT.of (upd_old hx f1), rfl, _, rfl, q2, _, _, _, rfl, rfl, SqT.of (upd_old hx f2), rfl, _, _, rfl, rfl, by_.w bu, _, _, rfl, (by_.mul bu).mono (by decide), nz2, fun r2 hx2 => ne_pair (upd_old hx2 upd_same) upd_same ⟨_, rfl, iteF ⟨rfl, same2 hx hx2⟩⟩⟩⟩⟩
              · rintro σ' H17 ⟨rfl, s17⟩
                have f1 := s17 _ _ f1
                have f2 := s17 _ _ f2
                have e5 := s17 _ _ e5
                have P17 := P16.old s17
                -- compared
                refine ⟨fun σ' H' => σ' = [some (.ref a0), some (.ref p), z2, some (.ref D), z4, some (.ref l5), z6, some (.ref q1), some (.ref q2), z9, z10, z11] ∧ Same H17 H', ?_, ?_⟩
                · refine ⟨_, rfl, _, rfl, q1, q2, x, y, u, v, rfl, f1, f2, bx, by_, bu, bv, _, rfl, _, rfl, q2, q1, u, v, x, y, rfl, f2, f1, bu, bv, bx, by_, .inr ⟨_, rfl, _, rfl, _, rfl, q1, q2, x, y, u, v, rfl, f1, f2, bx, by_, bu, bv, .inr ⟨_, rfl, _, _, rfl, rfl, rfl, _, rfl, ?_⟩⟩⟩
                  rw [decide_eq_true (show V.int (cmpI (x * v) (u * y)) = V.int ((if decide (u * y < x * v) = true then 1 else 0) - if decide (x * v < u * y) = true then 1 else 0) from rfl)]
                  refine iteF ⟨_, rfl, _, rfl, q1, q1, x, y, x, y, rfl, f1, f1, bx, by_, bx, by_, rfl, _, rfl, ?_⟩
                  rw [cmp_self, decide_eq_true rfl]
                  exact iteF ⟨rfl, Same.refl _⟩
                · rintro σ' H18 ⟨rfl, s18⟩
                  have f1 := s18 _ _ f1
                  have e5 := s18 _ _ e5
                  have P18 := P17.old s18
                  -- other values
                  refine ⟨_, rfl, _, rfl, p, c, q1, n, x, y, rfl, P18, f1, bx, by_, py, gx, fun t H19 it P19 s19 => ?_⟩
                  obtain ⟨v2, b2, ht, nv⟩ := it.get
                  have f1 := s19.at (P18.ne f1 fun _ z => by cases z) f1
                  have e5 := s19.at (P18.ne e5 fun _ z => by cases z) e5
                  refine ⟨t, _, rfl, SqT.of ht, rfl, _, _, rfl, _, _, rfl, rfl, ?_⟩
                  refine ⟨_, rfl, v2, b2, rfl, nv, _, rfl, rfl, _, rfl, ?_⟩
                  rw [decide_eq_true rfl]
                  exact iteF ⟨_, rfl, _, rfl, l5, _, _, _, rfl, rfl, SqL.of e5, rfl, q1, x, y, t1, rfl, f1, bx, by_, fun H20 s20 => ⟨_, rfl, iteF ⟨P19.old s20, _, _, _, _, _, _, _, _, _, _, rfl⟩⟩⟩
end
end RS

set_option maxRecDepth 100000
set_option maxHeartbeats 0
namespace RS
open PySem PySem.Spec PyProof.Rows L2 He
namespace Hd
def top (i : Nat) : Stmt := PySem.Challenge.pw_risingscales_k25_numbers_by_own_sums.main.body.getD i (.Pass ⟨0, 0, 0, 0⟩)
def dx (adr : Frg → Addr) (n q : Str) (st : Stmt) (dfl : List Dv) (clo : List Str) : DefR := ⟨adr, n, q, defArgs st, defBody st, defScope st, dfl, clo⟩
def fn : List DefR := [
  dx (fun K => inA K "BadNumber") "__init__" "BadNumber.__init__" (inClass (top 2) 0) [] ["__class__"],
  dx (fun K => ga K "is_whole") "is_whole" "is_whole" (top 4) [] [],
  dx (fun K => ga K "common") "common" "common" (top 6) [] [],
  dx (fun K => ga K "is_number") "is_number" "is_number" (top 7) [] [],
  dx (fun K => ga K "number") "number" "number" (top 8) [.int 1] [],
  dx (fun K => ga K "plus") "plus" "plus" (top 9) [] [],
  dx (fun K => ga K "minus") "minus" "minus" (top 10) [] [],
  dx (fun K => ga K "times") "times" "times" (top 11) [] [],
  dx (fun K => ga K "over") "over" "over" (top 12) [] [],
  dx (fun K => ga K "compared") "compared" "compared" (top 13) [] [],
  dx (fun K => ga K "_law_pen") "_law_pen" "_law_pen" (top 15) [] [],
  dx (fun K => ga K "_law_draw") "_law_draw" "_law_draw" (top 16) [] [],
  dx (fun K => ga K "_law_number") "_law_number" "_law_number" (top 17) [] [],
  dx (fun K => ga K "_law_below") "_law_below" "_law_below" (top 18) [] [],
  dx (fun K => ga K "_law_plus") "_law_plus" "_law_plus" (top 19) [] [],
  dx (fun K => ga K "_law_whole") "_law_whole" "_law_whole" (top 20) [] [],
  dx (fun K => ga K "_law_other") "_law_other" "_law_other" (top 21) [] [],
  dx (fun K => ga K "_law_refused") "_law_refused" "_law_refused" (top 22) [] [],
  dx (fun K => ga K "law") "law" "law" (top 23) [] []]
def exl : List (Frg → Bool) := [
  fun K => freeB K "int",
  fun K => freeB K "len",
  fun K => freeB K "isinstance",
  fun K => freeB K "bool",
  fun K => freeB K "abs",
  fun K => freeB K "tuple",
  fun K => freeB K "ValueError",
  fun K => freeB K "range",
  fun K => gloB K "ScaleError",
  fun K => decide (PySem.W.exmOne K (.ref (ga K "BadNumber")) (.ref (ga K "BadNumber")) = some true),
  fun K => decide (PySem.W.kitOne K (.ref (ga K "BadNumber")) (.ref (ga K "ScaleError")) = some true),
  fun K => decide (PySem.W.kitOne K (.ref (ga K "BadNumber")) (.type "ValueError") = some true),
  fun K => noatB K "BadNumber" "number",
  fun K => freeB K "str",
  fun K => excB K "BadNumber",
  fun K => clxB K "BadNumber" "/claim/cut.py",
  fun K => gloB K "BadNumber",
  fun K => gloB K "is_whole",
  fun K => gloB K "common",
  fun K => gloB K "is_number",
  fun K => gloB K "number",
  fun K => gloB K "plus",
  fun K => gloB K "minus",
  fun K => gloB K "times",
  fun K => gloB K "over",
  fun K => gloB K "compared",
  fun K => gloB K "_law_pen",
  fun K => gloB K "_law_draw",
  fun K => gloB K "_law_number",
  fun K => gloB K "_law_below",
  fun K => gloB K "_law_plus",
  fun K => gloB K "_law_whole",
  fun K => gloB K "_law_other",
  fun K => gloB K "_law_refused",
  fun K => freeB K "super",
  fun K => gloB K "law"]
def ex (K : Frg) : Bool := exl.all fun b => b K
abbrev R : PySem.W.OpenRow := PySem.W.OpenLaw.row PySem.Challenge.rw_risingscales_k25_numbers_by_own_sums
abbrev hk : PySem.W.Hook := hookR 6 ex fn
def ob (s : PySem.W.SharedT) : AlR := obsRG 6 ex fn (HandSHeadRun.getT s)
theorem ob_eq (s : PySem.W.SharedT) : ob s = hk.obs s.abs := obsRG_eq (HandSHeadRun.getT_eq s)
def loose : List Str := ["ScaleError", "BadNumber", "is_whole", "common", "is_number", "number", "plus", "minus", "times", "over", "compared", "_law_pen", "_law_draw", "_law_number", "_law_below", "_law_plus", "_law_whole", "_law_other", "_law_refused"]
theorem run (w : World) : HandSHeadRun.RunEq R (PySem.W.view R.prog [23]) hk ob 2000 loose w := by
  intro os
  kernel_rfl
end Hd
theorem _root_.RS.SaysR.fact {K : Frg} (c : SaysR Hd.ex Hd.fn K) (i : Nat) {b : Frg → Bool} (h : Hd.exl[i]? = some b := by rfl) : b K = true := List.all_eq_true.mp c.more b (List.mem_of_getElem? h)
end RS

set_option maxRecDepth 100000
set_option maxHeartbeats 4000000
namespace RS
open PySem PySem.Spec PyProof.Rows L2 He
theorem facts {P : Program} {w : World} {K : Frg} {h : Heap} {mg : Str → Option Value} {f : Addr} (X : K.In h) (G : h.Ns mainGlobals mg) (hfa : mg ("law" : Str) = some (.ref f)) (c : SaysR Hd.ex Hd.fn K) (hfile : P.main.file = "/claim/cut.py") (htop : (P.main.scope.names.lookup ("super" : Str)).isSome = false) :
    ∃ fd : FuncData, (∀ (s : Shared) (v : Value), BindsTo s fd ⟨[v], []⟩ [("_law_script", v)]) ∧ ∀ base : Heap, K.In base → base.Ns mainGlobals mg → FnOk P w K mg base CX0 6 f fd ["_law_script"] (spLaw K) := by
  obtain ⟨fd1, F1⟩ := c.def_ 1
  obtain ⟨fd2, F2⟩ := c.def_ 2
  obtain ⟨fd3, F3⟩ := c.def_ 3
  obtain ⟨fd4, F4⟩ := c.def_ 4
  obtain ⟨fd5, F5⟩ := c.def_ 5
  obtain ⟨fd6, F6⟩ := c.def_ 6
  obtain ⟨fd7, F7⟩ := c.def_ 7
  obtain ⟨fd8, F8⟩ := c.def_ 8
  obtain ⟨fd9, F9⟩ := c.def_ 9
  obtain ⟨fd10, F10⟩ := c.def_ 10
  obtain ⟨fd11, F11⟩ := c.def_ 11
  obtain ⟨fd12, F12⟩ := c.def_ 12
  obtain ⟨fd13, F13⟩ := c.def_ 13
  obtain ⟨fd14, F14⟩ := c.def_ 14
  obtain ⟨fd15, F15⟩ := c.def_ 15
  obtain ⟨fd16, F16⟩ := c.def_ 16
  obtain ⟨fd17, F17⟩ := c.def_ 17
  obtain ⟨fd18, F18⟩ := c.def_ 18
  have e := hfa.symm.trans (glo_ok X G (c.fact 35))
  cases e
  have hsup : mg "super" = none := free_ok X G (c.fact 34)
  have TP : TPen mg := ⟨(free_ok X G (c.fact 0)), (free_ok X G (c.fact 1))⟩
  have T : TNum mg := ⟨(free_ok X G (c.fact 2)), (free_ok X G (c.fact 0)), (free_ok X G (c.fact 3)), (free_ok X G (c.fact 1)), (free_ok X G (c.fact 4)), (free_ok X G (c.fact 5))⟩
  have TR : TRef K mg (ga K "ScaleError") (ga K "BadNumber") := ⟨(free_ok X G (c.fact 2)), (free_ok X G (c.fact 6)), (free_ok X G (c.fact 3)), (free_ok X G (c.fact 0)), (free_ok X G (c.fact 7)), (glo_ok X G (c.fact 8)), (of_decide_eq_true (c.fact 9)), (of_decide_eq_true (c.fact 10)), (of_decide_eq_true (c.fact 11)), (noat_ok (c.fact 12))⟩
  have bs : mg "str" = none := (free_ok X G (c.fact 13))
  obtain ⟨fd0, F0, i0, t0⟩ := clxB_ok (P := P) (c.fact 15) rfl (c.val_ 0) rfl hfile
  have b := FunD.bindsA (ps := ["_law_script"]) F18 fun _ _ _ _ _ _ us hl => match us, hl with | [_], _ => rfl
  refine ⟨fd18, fun s v => b s [v] rfl, fun base _ _ => ?_⟩
  have M_BadNumber : Exk P w K mg base "BadNumber" (ga K "BadNumber") ["number"] := ⟨⟨inA K "BadNumber", fd0, ["self", "number"], ok_BadNumber___init__ F0 (excB_ok (c.fact 14)) (noat_ok (c.fact 12)) hsup htop, FunX.bindsN F0 (fun _ _ _ _ _ _ us hl => match us, hl with | [_, _], _ => rfl), i0, t0⟩, glo_ok X G (c.fact 16), excB_ok (c.fact 14)⟩
  have M_is_whole : Cal P w K mg base CX0 1 "is_whole" ["value"] [] (spWhole K) := ⟨_, _, _, ok_is_whole F1 T, glo_ok X G (c.fact 17), F1.kp, .nil, (FunD.bindsN (ps := ["value"]) F1 fun _ _ _ _ _ _ us hl => match us, hl with | [_], _ => rfl)⟩
  have M_common : Cal P w K mg base CX0 1 "common" ["one", "two"] [] spCommon := ⟨_, _, _, ok_common F2 T, glo_ok X G (c.fact 18), F2.kp, .nil, (FunD.bindsN (ps := ["one", "two"]) F2 fun _ _ _ _ _ _ us hl => match us, hl with | [_, _], _ => rfl)⟩
  have M_is_number : Cal P w K mg base CX0 2 "is_number" ["value"] [] (spIsNum K) := ⟨_, _, _, ok_is_number F3 T M_is_whole M_common, glo_ok X G (c.fact 19), F3.kp, .nil, (FunD.bindsN (ps := ["value"]) F3 fun _ _ _ _ _ _ us hl => match us, hl with | [_], _ => rfl)⟩
  have M_number2 : Cal P w K mg base (L2.CX P w) 3 "number" ["top", "low"] [] (spNum (ga K "BadNumber")) := by
    obtain ⟨ds, vd, b⟩ := FunD.binds1 (ps := ["top", "low"]) F4 2 1 (fun z => by cases z) rfl fun _ _ _ _ _ _ _ us its h1 h2 => match us, its, h1, h2 with | [_, _], [_], _, _ => ⟨_, rfl, rfl⟩
    exact ⟨_, _, ds, ok_number F4 T M_BadNumber M_common, glo_ok X G (c.fact 20), F4.kp, vd, b⟩
  have M_number1 : Cal P w K mg base (L2.CX P w) 3 "number" ["top", "low"] [.int 1] (spNum (ga K "BadNumber")) := by
    obtain ⟨ds, vd, b⟩ := FunD.binds1 (ps := ["top", "low"]) F4 1 0 (fun z => by cases z) rfl fun _ _ _ _ _ _ _ us its h1 h2 => match us, its, h1, h2 with | [_], [_], _, _ => ⟨_, rfl, rfl⟩
    exact ⟨_, _, ds, ok_number F4 T M_BadNumber M_common, glo_ok X G (c.fact 20), F4.kp, vd, b⟩
  have M_plus : Cal P w K mg base CX0 4 "plus" ["a", "b"] [] sp_plus := ⟨_, _, _, ok_plus F5 M_number2, glo_ok X G (c.fact 21), F5.kp, .nil, (FunD.bindsN (ps := ["a", "b"]) F5 fun _ _ _ _ _ _ us hl => match us, hl with | [_, _], _ => rfl)⟩
  have M_minus : Cal P w K mg base CX0 4 "minus" ["a", "b"] [] sp_minus := ⟨_, _, _, ok_minus F6 M_number2, glo_ok X G (c.fact 22), F6.kp, .nil, (FunD.bindsN (ps := ["a", "b"]) F6 fun _ _ _ _ _ _ us hl => match us, hl with | [_, _], _ => rfl)⟩
  have M_times : Cal P w K mg base CX0 4 "times" ["a", "b"] [] sp_times := ⟨_, _, _, ok_times F7 M_number2, glo_ok X G (c.fact 23), F7.kp, .nil, (FunD.bindsN (ps := ["a", "b"]) F7 fun _ _ _ _ _ _ us hl => match us, hl with | [_, _], _ => rfl)⟩
  have M_over : Cal P w K mg base (L2.CX P w) 4 "over" ["a", "b"] [] (spOver (ga K "BadNumber")) := ⟨_, _, _, ok_over F8 M_BadNumber M_number2, glo_ok X G (c.fact 24), F8.kp, .nil, (FunD.bindsN (ps := ["a", "b"]) F8 fun _ _ _ _ _ _ us hl => match us, hl with | [_, _], _ => rfl)⟩
  have M_compared : Cal P w K mg base CX0 1 "compared" ["a", "b"] [] spCmp := ⟨_, _, _, ok_compared F9 T, glo_ok X G (c.fact 25), F9.kp, .nil, (FunD.bindsN (ps := ["a", "b"]) F9 fun _ _ _ _ _ _ us hl => match us, hl with | [_, _], _ => rfl)⟩
  have M__law_pen : Cal P w K mg base CX0 1 "_law_pen" ["_law_script"] [] (spPen K) := ⟨_, _, _, ok_pen F10 TP, glo_ok X G (c.fact 26), F10.kp, .nil, (FunD.bindsN (ps := ["_law_script"]) F10 fun _ _ _ _ _ _ us hl => match us, hl with | [_], _ => rfl)⟩
  have M__law_draw : Cal P w K mg base CX0 1 "_law_draw" ["_law_pen_here", "_law_many"] [] spDraw := ⟨_, _, _, ok_draw F11 TP, glo_ok X G (c.fact 27), F11.kp, .nil, (FunD.bindsN (ps := ["_law_pen_here", "_law_many"]) F11 fun _ _ _ _ _ _ us hl => match us, hl with | [_, _], _ => rfl)⟩
  have M__law_number : Cal P w K mg base CX0 1 "_law_number" ["_law_top", "_law_low"] [] spLNum := ⟨_, _, _, ok_law_number F12 T, glo_ok X G (c.fact 28), F12.kp, .nil, (FunD.bindsN (ps := ["_law_top", "_law_low"]) F12 fun _ _ _ _ _ _ us hl => match us, hl with | [_, _], _ => rfl)⟩
  have M__law_below : Cal P w K mg base CX0 1 "_law_below" ["_law_a", "_law_b"] [] spBelow := ⟨_, _, _, ok_below F13, glo_ok X G (c.fact 29), F13.kp, .nil, (FunD.bindsN (ps := ["_law_a", "_law_b"]) F13 fun _ _ _ _ _ _ us hl => match us, hl with | [_, _], _ => rfl)⟩
  have M__law_plus : Cal P w K mg base CX0 2 "_law_plus" ["_law_a", "_law_b", "_law_sign"] [] spLPlus := ⟨_, _, _, ok_lplus F14 M__law_number, glo_ok X G (c.fact 30), F14.kp, .nil, (FunD.bindsN (ps := ["_law_a", "_law_b", "_law_sign"]) F14 fun _ _ _ _ _ _ us hl => match us, hl with | [_, _, _], _ => rfl)⟩
  have M__law_whole : Cal P w K mg base CX0 2 "_law_whole" ["_law_pen_here"] [] spWh := ⟨_, _, _, ok_whole F15 M__law_draw, glo_ok X G (c.fact 31), F15.kp, .nil, (FunD.bindsN (ps := ["_law_pen_here"]) F15 fun _ _ _ _ _ _ us hl => match us, hl with | [_], _ => rfl)⟩
  have M__law_other : Cal P w K mg base CX0 2 "_law_other" ["_law_pen_here", "_law_pair"] [] (spOth K) := ⟨_, _, _, ok_other F16 T bs M__law_draw, glo_ok X G (c.fact 32), F16.kp, .nil, (FunD.bindsN (ps := ["_law_pen_here", "_law_pair"]) F16 fun _ _ _ _ _ _ us hl => match us, hl with | [_, _], _ => rfl)⟩
  have M__law_refused : Cal P w K mg base CX0 5 "_law_refused" ["_law_value", "_law_by"] [] spRef := ⟨_, _, _, ok_refused F17 TR M_BadNumber M_over M_number2, glo_ok X G (c.fact 33), F17.kp, .nil, (FunD.bindsN (ps := ["_law_value", "_law_by"]) F17 fun _ _ _ _ _ _ us hl => match us, hl with | [_, _], _ => rfl)⟩
  exact ok_law F18 TR M__law_pen M__law_draw M__law_whole M_number2 M_number1 M__law_number M_is_number M_plus M_minus M_times M_over M_compared M__law_below M__law_plus M__law_other M__law_refused
end RS
open PySem PySem.W PySem.Calls PyProof.Rows
theorem PySem.Challenge.cw_risingscales_k25_numbers_by_own_sums_holds : PySem.Challenge.rw_risingscales_k25_numbers_by_own_sums.Holds := by
  w_on; o_law
  refine HandSHeadRun.head_any (r := OpenLaw.row PySem.Challenge.rw_risingscales_k25_numbers_by_own_sums) (q := view (OpenLaw.row PySem.Challenge.rw_risingscales_k25_numbers_by_own_sums).prog [23]) (H := RS.Hd.hk) (ob := RS.Hd.ob) (M := 2000) (loose := RS.Hd.loose) (d := HandSHeadRun.topDef (OpenLaw.row PySem.Challenge.rw_risingscales_k25_numbers_by_own_sums).prog 23) (kwd := []) RS.Hd.ob_eq
    (by kernel_rfl) (fun s => by kernel_rfl) RS.Hd.run (by kernel_rfl) (by kernel_rfl) (by kernel_rfl) (by rfl) (by first | assumption | decide +kernel) (by decide +kernel) ⟨rfl, rfl, rfl, rfl, rfl, by decide +kernel⟩ ?hw ?hc
  case hw => w_witness2
  case hc =>
    refine L2.walk_ofE (l := PySem.Challenge.rw_risingscales_k25_numbers_by_own_sums) (n := 63) (k := 6) (x := "_law_script") (CX := L2.CX0) rfl (by decide) (by kernel_rfl) ⟨rfl, by decide, by decide⟩ ?F (fun _ _ _ _ z => z)
    intro w mg fa h Y G hmg0
    obtain ⟨K, KX, c⟩ := Y
    have hmg : mg ("law" : PySem.Str) = some (.ref fa) := by
      have e : (HandSHeadRun.topDef (OpenLaw.row PySem.Challenge.rw_risingscales_k25_numbers_by_own_sums).prog 23).name = ("law" : PySem.Str) := by kernel_rfl
      rw [← e]
      exact hmg0
    obtain ⟨fd, hb, hF⟩ := RS.facts (P := (PySem.Challenge.rw_risingscales_k25_numbers_by_own_sums).prog) (w := w) KX G hmg c (by kernel_rfl) (by kernel_rfl)
    exact ⟨K, fd, RS.spLaw K, KX, hb, fun H a ns hl _ hS => ⟨a, ns, rfl, hS, fun _ => rfl⟩, hF⟩
